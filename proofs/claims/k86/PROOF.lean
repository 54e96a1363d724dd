import PyProof.Rows.All
import Wide.All
import OpenK.AllK
import Wide.FinOn
import HandS.ForMost
import HandS.IsInst
import HandS.TupAny
import HandS.Zip
import HandS.Rev
import HandS.NoneIn
import HandS.Flow
import HandS.Defaults
import HandS.More
import HandS.WordsExc
import HandS.DictComp
import HandS.DeepEq
import KE.KDictCopyH
import HandS.Head0
import HandS.Head1
import HandS.Head2
import HandS.HeadEnd
import HandS.HeadHook1
import HandS.HeadHook2
import HandS.HeadHook3
import HandS.HeadHook4
import HandS.ExcInit
import HandS.ExcOwn
import HandS.ExcField
import HandS.ExcIs
import PySem.Challenge.RW_noneshorter_k86_text_lines
set_option Elab.async false
set_option linter.all false
set_option autoImplicit false
set_option maxRecDepth 100000
set_option maxHeartbeats 2000000
/-! Deep readings over the hand layer: values whose tuples are data (D), a heap of lists, dicts and instances that hold such values (Mm). -/
namespace DH
open PySem PySem.Spec PyProof.Rows L2

inductive D where
  | non | bl (b : Bool) | int (i : Int) | str (x : Str) | ref (a : Addr) | ty (n : String) | tup (xs : List D) | kd (kvs : List (Str × D)) | fl (xs : List D)

/-- the scalars -/
inductive Flt : D → V → Prop
  | non : Flt .non .non
  | bl (b : Bool) : Flt (.bl b) (.bl b)
  | int (i : Int) : Flt (.int i) (.int i)
  | str (x : Str) : Flt (.str x) (.str x)
/-- a written dict -/
structure KdAt (K : PySem.W.Frag) (w : World) (a : Addr) (kvs : List (Str × D)) : Prop where
  kd : ∃ es n, KDict K w a es n ∧ es.size = kvs.length
  small : kvs.length ≤ 1000
  hit : ∀ z d, kvs.lookup z = some d → ∃ u v, PySem.W.nsIn K a z = some (some u) ∧ RelV v u ∧ Flt d v
  miss : ∀ z, kvs.lookup z = none → PySem.W.nsIn K a z = some none

/-- a list that nobody changes: locked, or written by the top -/
def FzL (K : PySem.W.Frag) (H : Hp) (a : Addr) (xs : List V) : Prop := (∃ o, H a = some (.frz o (.lst xs))) ∨
  ∃ (o : Obj) (its : Array Value) (n : Nat), K.lookup a = some o ∧ o.cls = .type "list" ∧ o.dict = none ∧ o.data = .seq its n ∧ its.size ≤ sizeLine ∧ Vals xs its.toList
theorem FzL.sq {K : PySem.W.Frag} {H : Hp} {a : Addr} {xs : List V} (h : FzL K H a xs) : SqL K H a xs := by
  rcases h with ⟨o, h⟩ | h
  · exact .inl (.inr ⟨o, h⟩)
  · exact .inr h
mutual
inductive Rep (K : PySem.W.Frag) (w : World) (H : Hp) : D → V → Prop
  | non : Rep K w H .non .non
  | bl (b : Bool) : Rep K w H (.bl b) (.bl b)
  | int (i : Int) : Rep K w H (.int i) (.int i)
  | str (x : Str) : Rep K w H (.str x) (.str x)
  | ref (a : Addr) : Rep K w H (.ref a) (.ref a)
  | ty (n : String) : Rep K w H (.ty n) (.ty n)
  | tup {a : Addr} {ds : List D} {xs : List V} : SqT K H a xs → RepL K w H ds xs → Rep K w H (.tup ds) (.ref a)
  | kd {a : Addr} {kvs : List (Str × D)} : KdAt K w a kvs → Rep K w H (.kd kvs) (.ref a)
  | fl {a : Addr} {ds : List D} {xs : List V} : FzL K H a xs → RepL K w H ds xs → Rep K w H (.fl ds) (.ref a)
inductive RepL (K : PySem.W.Frag) (w : World) (H : Hp) : List D → List V → Prop
  | nil : RepL K w H [] []
  | cons {d : D} {ds : List D} {x : V} {xs : List V} : Rep K w H d x → RepL K w H ds xs → RepL K w H (d :: ds) (x :: xs)
end

/-- tuples and locked things stand -/
structure Tx (K : PySem.W.Frag) (H H' : Hp) : Prop where
  t : ∀ a xs, SqT K H a xs → SqT K H' a xs
  f : ∀ a o u, H a = some (.frz o u) → H' a = some (.frz o u)
theorem Tx.refl {K : PySem.W.Frag} (H : Hp) : Tx K H H := ⟨fun _ _ h => h, fun _ _ _ h => h⟩
theorem Tx.trans {K : PySem.W.Frag} {H H1 H2 : Hp} (a : Tx K H H1) (b : Tx K H1 H2) : Tx K H H2 := ⟨fun c x h => b.t c x (a.t c x h), fun c o u h => b.f c o u (a.f c o u h)⟩
theorem Tx.new {K : PySem.W.Frag} {H : Hp} {p : Addr} {o : HO} (h : H p = none) : Tx K H (upd H p o) := ⟨fun a xs e => by
  rcases e with (e | ⟨u, e⟩) | e
  · exact .inl (.inl (by rw [upd_ne (ne_of_none e h)]; exact e))
  · exact .inl (.inr ⟨u, by rw [upd_ne (ne_of_none e h)]; exact e⟩)
  · exact .inr e, fun a u v e => by rw [upd_ne (ne_of_none e h)]; exact e⟩
/-- no tuple, no locked thing stands there -/
def notT : HO → Prop
  | .tup _ => False
  | .frz _ _ => False
  | _ => True
theorem Tx.mut {K : PySem.W.Frag} {H : Hp} {p : Addr} {o u : HO} (h : H p = some u) (n : notT u) : Tx K H (upd H p o) := ⟨fun a xs e => by
  rcases e with (e | ⟨v, e⟩) | e
  · refine .inl (.inl ?_)
    rw [upd_ne (ne_of e h (fun z => by subst z; exact n))]
    exact e
  · refine .inl (.inr ⟨v, ?_⟩)
    rw [upd_ne (ne_of e h (fun z => by subst z; exact n))]
    exact e
  · exact .inr e, fun a v x e => by rw [upd_ne (ne_of e h (fun z => by subst z; exact n))]; exact e⟩
theorem FzL.mono {K : PySem.W.Frag} {H H' : Hp} {a : Addr} {xs : List V} (h : FzL K H a xs) (t : Tx K H H') : FzL K H' a xs := by
  rcases h with ⟨o, h⟩ | h
  · exact .inl ⟨o, t.f _ _ _ h⟩
  · exact .inr h

section
variable {K : PySem.W.Frag} {w : World} {H H' : Hp}
mutual
theorem Rep.mono (t : Tx K H H') : ∀ {d : D} {v : V}, Rep K w H d v → Rep K w H' d v
  | _, _, .non => .non
  | _, _, .bl b => .bl b
  | _, _, .int i => .int i
  | _, _, .str x => .str x
  | _, _, .ref a => .ref a
  | _, _, .ty n => .ty n
  | _, _, .tup h l => .tup (t.t _ _ h) (RepL.mono t l)
  | _, _, .fl h l => .fl (h.mono t) (RepL.mono t l)
  | _, _, .kd h => .kd h
theorem RepL.mono (t : Tx K H H') : ∀ {ds : List D} {xs : List V}, RepL K w H ds xs → RepL K w H' ds xs
  | _, _, .nil => .nil
  | _, _, .cons h l => .cons (Rep.mono t h) (RepL.mono t l)
end
theorem RepL.length : ∀ {ds : List D} {xs : List V}, RepL K w H ds xs → xs.length = ds.length
  | _, _, .nil => rfl
  | _, _, .cons _ l => congrArg (· + 1) (RepL.length l)
theorem RepL.get : ∀ {ds : List D} {xs : List V} {i : Nat} {d : D}, RepL K w H ds xs → ds[i]? = some d → ∃ x, xs[i]? = some x ∧ Rep K w H d x
  | _, _, _, _, .nil, e => by simp at e
  | _, _, 0, _, .cons h _, e => by simp at e; subst e; exact ⟨_, rfl, h⟩
  | _, _, i + 1, _, .cons _ l, e => by
    obtain ⟨x, h1, h2⟩ := RepL.get (i := i) l (by simpa using e)
    exact ⟨x, by simpa using h1, h2⟩
theorem RepL.append : ∀ {ds es : List D} {xs ys : List V}, RepL K w H ds xs → RepL K w H es ys → RepL K w H (ds ++ es) (xs ++ ys)
  | _, _, _, _, .nil, l => l
  | _, _, _, _, .cons h t, l => .cons h (RepL.append t l)
theorem RepL.one {d : D} {x : V} (h : Rep K w H d x) : RepL K w H [d] [x] := .cons h .nil
theorem RepL.set {d : D} {x : V} (r : Rep K w H d x) : ∀ {ds : List D} {xs : List V} (i : Nat), RepL K w H ds xs → RepL K w H (ds.set i d) (xs.set i x)
  | _, _, _, .nil => .nil
  | _, _, 0, .cons _ t => .cons r t
  | _, _, i + 1, .cons h t => .cons h (RepL.set r i t)
theorem RepL.take : ∀ {ds : List D} {xs : List V} (n : Nat), RepL K w H ds xs → RepL K w H (ds.take n) (xs.take n)
  | _, _, 0, _ => .nil
  | _, _, _ + 1, .nil => .nil
  | _, _, n + 1, .cons h t => .cons h (RepL.take n t)
theorem RepL.drop : ∀ {ds : List D} {xs : List V} (n : Nat), RepL K w H ds xs → RepL K w H (ds.drop n) (xs.drop n)
  | _, _, 0, l => l
  | _, _, _ + 1, .nil => .nil
  | _, _, n + 1, .cons _ t => RepL.drop n t
theorem RepL.reverse : ∀ {ds : List D} {xs : List V}, RepL K w H ds xs → RepL K w H ds.reverse xs.reverse
  | _, _, .nil => .nil
  | _, _, .cons h t => by
    rw [List.reverse_cons, List.reverse_cons]
    exact RepL.append (RepL.reverse t) (.one h)
theorem RepL.ints : ∀ (ns : List Int), RepL K w H (ns.map D.int) (ns.map V.int)
  | [] => .nil
  | n :: r => .cons (.int n) (RepL.ints r)
end

/-- what stands at an address that may change -/
inductive MO where
  | lst (ds : List D) | dk (kvs : List (Key × D)) | ins (C : Addr) (fs : List (Str × D)) | xd (fs : List (Str × D))
abbrev Mm := Addr → Option MO
def updM (M : Mm) (a : Addr) (o : MO) : Mm := fun b => if b = a then some o else M b
theorem updM_same {M : Mm} {a : Addr} {o : MO} : updM M a o a = some o := by unfold updM; rw [if_pos rfl]
theorem updM_ne {M : Mm} {a b : Addr} {o : MO} (h : b ≠ a) : updM M a o b = M b := by unfold updM; rw [if_neg h]
/-- fields, entries -/
inductive RepF {κ : Type} (K : PySem.W.Frag) (w : World) (H : Hp) : List (κ × D) → List (κ × V) → Prop
  | nil : RepF K w H [] []
  | cons {k : κ} {d : D} {x : V} {fs : List (κ × D)} {gs : List (κ × V)} : Rep K w H d x → RepF K w H fs gs → RepF K w H ((k, d) :: fs) ((k, x) :: gs)
def HRep (K : PySem.W.Frag) (w : World) (H : Hp) (a : Addr) : MO → Prop
  | .lst ds => ∃ xs, H a = some (.lst xs) ∧ RepL K w H ds xs
  | .dk kvs => ∃ gs, H a = some (.dK gs) ∧ RepF K w H kvs gs
  | .ins C fs => ∃ dx gs, H a = some (.ins C dx gs) ∧ RepF K w H fs gs
  | .xd fs => ∃ gs, H a = some (.xd gs) ∧ RepF K w H fs gs
def Rm (K : PySem.W.Frag) (w : World) (H : Hp) (M : Mm) : Prop := ∀ a o, M a = some o → HRep K w H a o
section
variable {K : PySem.W.Frag} {w : World} {H H' : Hp} {M : Mm}
theorem RepF.mono {κ : Type} (t : Tx K H H') : ∀ {fs : List (κ × D)} {gs : List (κ × V)}, RepF K w H fs gs → RepF K w H' fs gs
  | _, _, .nil => .nil
  | _, _, .cons h l => .cons (h.mono t) (RepF.mono t l)
theorem RepF.length {κ : Type} : ∀ {fs : List (κ × D)} {gs : List (κ × V)}, RepF K w H fs gs → gs.length = fs.length
  | _, _, .nil => rfl
  | _, _, .cons _ l => congrArg (· + 1) (RepF.length l)
theorem RepF.lookup {κ : Type} [BEq κ] : ∀ {fs : List (κ × D)} {gs : List (κ × V)} {f : κ} {d : D}, RepF K w H fs gs → fs.lookup f = some d → ∃ x, gs.lookup f = some x ∧ Rep K w H d x
  | _, _, f, _, .nil, e => by simp at e
  | _, _, f, _, .cons (k := k) h l, e => by
    rw [List.lookup_cons] at e
    rw [List.lookup_cons]
    cases q : (f == k) with
    | true => rw [q] at e; cases e; exact ⟨_, rfl, h⟩
    | false => rw [q] at e; exact RepF.lookup l e
theorem RepF.lookup_none {κ : Type} [BEq κ] : ∀ {fs : List (κ × D)} {gs : List (κ × V)} {f : κ}, RepF K w H fs gs → fs.lookup f = none → gs.lookup f = none
  | _, _, f, .nil, e => rfl
  | _, _, f, .cons (k := k) h l, e => by
    rw [List.lookup_cons] at e
    rw [List.lookup_cons]
    cases q : (f == k) with
    | true => rw [q] at e; cases e
    | false => rw [q] at e; exact RepF.lookup_none l e
theorem HRep.there {a : Addr} {o : MO} (h : HRep K w H a o) : ∃ u, H a = some u ∧ notT u := by
  cases o with
  | lst ds => obtain ⟨xs, e, _⟩ := h; exact ⟨_, e, trivial⟩
  | dk kvs => obtain ⟨gs, e, _⟩ := h; exact ⟨_, e, trivial⟩
  | ins C fs => obtain ⟨dx, gs, e, _⟩ := h; exact ⟨_, e, trivial⟩
  | xd fs => obtain ⟨gs, e, _⟩ := h; exact ⟨_, e, trivial⟩
theorem HRep.keep {a : Addr} {o : MO} (h : HRep K w H a o) (e : H' a = H a) (t : Tx K H H') : HRep K w H' a o := by
  cases o with
  | lst ds => obtain ⟨xs, q, r⟩ := h; exact ⟨xs, e.trans q, r.mono t⟩
  | dk kvs => obtain ⟨gs, q, r⟩ := h; exact ⟨gs, e.trans q, r.mono t⟩
  | ins C fs => obtain ⟨dx, gs, q, r⟩ := h; exact ⟨dx, gs, e.trans q, r.mono t⟩
  | xd fs => obtain ⟨gs, q, r⟩ := h; exact ⟨gs, e.trans q, r.mono t⟩
theorem Rm.free (r : Rm K w H M) {p : Addr} (h : H p = none) : M p = none := by
  cases e : M p with
  | none => rfl
  | some o =>
    obtain ⟨u, q, _⟩ := (r p o e).there
    rw [h] at q; cases q
/-- a thing is laid or changed at p -/
theorem Rm.upd (r : Rm K w H M) {p : Addr} {ho : HO} {mo : MO} (t : Tx K H (L2.upd H p ho)) (n : HRep K w (L2.upd H p ho) p mo) : Rm K w (L2.upd H p ho) (updM M p mo) := fun a o e => by
  by_cases h : a = p
  · subst h; rw [updM_same] at e; cases e; exact n
  · rw [updM_ne h] at e
    exact (r a o e).keep (upd_ne h) t
/-- a thing is laid that is not followed -/
theorem Rm.keepNew (r : Rm K w H M) {p : Addr} {ho : HO} (h : H p = none) : Rm K w (L2.upd H p ho) M := fun a o e => by
  have hn : a ≠ p := fun z => by subst z; rw [r.free h] at e; cases e
  exact (r a o e).keep (upd_ne hn) (Tx.new h)
theorem Rm.mono (r : Rm K w H M) {M' : Mm} (h : ∀ a o, M' a = some o → M a = some o) : Rm K w H M' := fun a o e => r a o (h a o e)
end

abbrev DEnv := List (Option D)
abbrev DQ := D → Mm → Prop
abbrev DE := DEnv → Mm → DQ → Prop
abbrev DT := DEnv → Mm → (Bool → Mm → Prop) → Prop
abbrev DA := DEnv → Mm → (List D → Mm → Prop) → Prop
structure DEnds where
  nx : DEnv → Mm → Prop
  rt : DQ
  bk : DEnv → Mm → Prop := fun _ _ => False
  ct : DEnv → Mm → Prop := fun _ _ => False
  xc : Value → Option Addr → DEnv → Mm → Prop := fun _ _ _ _ => False
abbrev DS := DEnds → DEnv → Mm → Prop
abbrev DX := Value → Option Addr → Mm → Prop
abbrev DSp := List D → Mm → DQ → DX → Prop

structure Sl (K : PySem.W.Frag) (w : World) (H : Hp) (σ : L2.St) (E : DEnv) : Prop where
  len : σ.length = E.length
  at_ : ∀ (i : Nat) d, E[i]? = some (some d) → ∃ v, σ[i]? = some (some v) ∧ Rep K w H d v
section
variable {K : PySem.W.Frag} {w : World} {H H' : Hp} {M : Mm} {σ : L2.St} {E : DEnv}
theorem Sl.mono (s : Sl K w H σ E) (t : Tx K H H') : Sl K w H' σ E := ⟨s.len, fun i d e => let ⟨v, h, r⟩ := s.at_ i d e; ⟨v, h, r.mono t⟩⟩
theorem Sl.set (s : Sl K w H σ E) {d : D} {v : V} (r : Rep K w H d v) (i : Nat) : Sl K w H (σ.set i (some v)) (E.set i (some d)) := by
  refine ⟨by rw [List.length_set, List.length_set, s.len], fun j e h => ?_⟩
  by_cases hj : i = j
  · subst hj
    have hl : i < E.length := by
      have := (List.getElem?_eq_some_iff.mp h).1
      rwa [List.length_set] at this
    rw [List.getElem?_set_self hl] at h
    cases h
    exact ⟨v, List.getElem?_set_self (by rw [s.len]; exact hl), r⟩
  · rw [List.getElem?_set_ne hj] at h
    obtain ⟨x, q, rr⟩ := s.at_ j e h
    exact ⟨x, by rw [List.getElem?_set_ne hj]; exact q, rr⟩
end
def wipeD (E : DEnv) : List Nat → DEnv
  | [] => E
  | v :: vs => (wipeD E vs).set v none
theorem Sl.wipe {K : PySem.W.Frag} {w : World} {H : Hp} {σ : L2.St} {E : DEnv} (s : Sl K w H σ E) : ∀ vs : List Nat, Sl K w H (L2.wipe σ vs) (wipeD E vs)
  | [] => s
  | v :: vs => by
    have h := Sl.wipe s vs
    refine ⟨?_, fun j e q => ?_⟩
    · show ((L2.wipe σ vs).set v none).length = ((wipeD E vs).set v none).length
      rw [List.length_set, List.length_set, h.len]
    · have q : ((wipeD E vs).set v none)[j]? = some (some e) := q
      show ∃ x, ((L2.wipe σ vs).set v none)[j]? = some (some x) ∧ _
      by_cases hj : v = j
      · subst hj
        by_cases hl : v < (wipeD E vs).length
        · rw [List.getElem?_set_self hl] at q; cases q
        · rw [List.getElem?_eq_none (by rw [List.length_set]; omega)] at q; cases q
      · rw [List.getElem?_set_ne hj] at q
        rw [List.getElem?_set_ne hj]
        exact h.at_ j e q

/-- the continuation at the deep level entails the one above the heap -/
def Kc (K : PySem.W.Frag) (w : World) (H : Hp) (Q' : DQ) (Q : VK) : Prop := ∀ v H' d M', Tx K H H' → Rm K w H' M' → Rep K w H' d v → Q' d M' → Q v H'
def tD (K : PySem.W.Frag) (w : World) (de : DE) : TE := fun σ H Q => ∃ E M Q', Sl K w H σ E ∧ Rm K w H M ∧ de E M Q' ∧ Kc K w H Q' Q
def ttD (K : PySem.W.Frag) (w : World) (dt : DT) : TT := fun σ H Q => ∃ E M Q', Sl K w H σ E ∧ Rm K w H M ∧ dt E M Q' ∧ ∀ b H' M', Tx K H H' → Rm K w H' M' → Q' b M' → Q b H'
def taD (K : PySem.W.Frag) (w : World) (da : DA) : TA := fun σ H Q => ∃ E M Q', Sl K w H σ E ∧ Rm K w H M ∧ da E M Q' ∧ ∀ vs H' ds M', Tx K H H' → Rm K w H' M' → RepL K w H' ds vs → Q' ds M' → Q vs H'
structure Kn (K : PySem.W.Frag) (w : World) (W : WX) (H : Hp) (D' : DEnds) (D : Ends) : Prop where
  nx : ∀ σ' H' E' M', Tx K H H' → Sl K w H' σ' E' → Rm K w H' M' → D'.nx E' M' → D.nx σ' H'
  rt : ∀ v H' d M', Tx K H H' → Rm K w H' M' → Rep K w H' d v → D'.rt d M' → D.rt v H'
  bk : ∀ σ' H' E' M', Tx K H H' → Sl K w H' σ' E' → Rm K w H' M' → D'.bk E' M' → D.bk σ' H'
  ct : ∀ σ' H' E' M', Tx K H H' → Sl K w H' σ' E' → Rm K w H' M' → D'.ct E' M' → D.ct σ' H'
  xc : ∀ cls d σ' H' E' M', Tx K H H' → Sl K w H' σ' E' → Rm K w H' M' → D'.xc cls d E' M' → W cls d σ' H'
def tsD (K : PySem.W.Frag) (w : World) (W : WX) (ds : DS) : TS := fun D σ H => ∃ E M D', Sl K w H σ E ∧ Rm K w H M ∧ ds D' E M ∧ Kn K w W H D' D
theorem Kn.tx {K : PySem.W.Frag} {w : World} {W : WX} {H H' : Hp} {D' : DEnds} {D : Ends} (k : Kn K w W H D' D) (t : Tx K H H') : Kn K w W H' D' D :=
  ⟨fun σ' H2 E' M' t2 => k.nx σ' H2 E' M' (t.trans t2), fun v H2 d M' t2 => k.rt v H2 d M' (t.trans t2), fun σ' H2 E' M' t2 => k.bk σ' H2 E' M' (t.trans t2), fun σ' H2 E' M' t2 => k.ct σ' H2 E' M' (t.trans t2), fun cls d σ' H2 E' M' t2 => k.xc cls d σ' H2 E' M' (t.trans t2)⟩
theorem Kc.tx {K : PySem.W.Frag} {w : World} {H H' : Hp} {Q' : DQ} {Q : VK} (k : Kc K w H Q' Q) (t : Tx K H H') : Kc K w H' Q' Q := fun v H2 d M' t2 => k v H2 d M' (t.trans t2)

/-! ### the judgements, weakened -/
section
variable {X : Cx} {e : Expr}
theorem pe_imp {t t' : TE} (h : PE X e t) (i : ∀ σ H Q, t' σ H Q → t σ H Q) : PE X e t' := ⟨fun pins s σ H Q I q => h.run pins s σ H Q I (i σ H Q q)⟩
theorem pt_imp {t t' : TT} (h : PT X e t) (i : ∀ σ H Q, t' σ H Q → t σ H Q) : PT X e t' := ⟨fun pins s σ H Q I q => h.run pins s σ H Q I (i σ H Q q)⟩
theorem pw_imp {t t' : TT} (h : PW X e t) (i : ∀ σ H Q, t' σ H Q → t σ H Q) : PW X e t' := ⟨fun wh pins s σ H Q I q => h.run wh pins s σ H Q I (i σ H Q q)⟩
theorem pa_imp {es : List Expr} {t t' : TA} (h : PA X es t) (i : ∀ σ H Q, t' σ H Q → t σ H Q) : PA X es t' := ⟨fun pos pins s σ H Q I q => h.run pos pins s σ H Q I (i σ H Q q)⟩
theorem ps_imp {st : Stmt} {t t' : TS} (h : PS X st t) (i : ∀ D σ H, t' D σ H → t D σ H) : PS X st t' := ⟨fun pins s σ H D I q => h.run pins s σ H D I (i D σ H q)⟩
theorem pss_imp {st : List Stmt} {t t' : TS} (h : PSs X st t) (i : ∀ D σ H, t' D σ H → t D σ H) : PSs X st t' := ⟨fun pins s σ H D I q => h.run pins s σ H D I (i D σ H q)⟩
theorem pi_imp {tg : Expr} {t t' : TI} (h : PI X tg e t) (i : ∀ σ H Q, t' σ H Q → t σ H Q) : PI X tg e t' := ⟨fun pins s σ H R I q => h.run pins s σ H R I (i σ H R q)⟩
theorem pi_or {tg : Expr} {t t' : TI} (h : PI X tg e t) (h' : PI X tg e t') : PI X tg e (fun σ H R => t σ H R ∨ t' σ H R) := ⟨fun pins s σ H R I q => q.elim (h.run pins s σ H R I) (h'.run pins s σ H R I)⟩
theorem pg_imp {tg : Expr} {t t' : TG} (h : PG X tg t) (i : ∀ v σ H Q, t' v σ H Q → t v σ H Q) : PG X tg t' := ⟨fun pins s σ H v u Q I r q => h.run pins s σ H v u Q I r (i v σ H Q q)⟩
end
/-- the judgements at the deep level -/
abbrev RE (X : Cx) (e : Expr) (de : DE) : Prop := PE X e (tD X.K X.w de)
abbrev RT (X : Cx) (e : Expr) (dt : DT) : Prop := PT X e (ttD X.K X.w dt)
abbrev RW (X : Cx) (e : Expr) (dt : DT) : Prop := PW X e (ttD X.K X.w dt)
abbrev RA (X : Cx) (es : List Expr) (da : DA) : Prop := PA X es (taD X.K X.w da)
abbrev RS (X : Cx) (st : Stmt) (ds : DS) : Prop := ∀ W : WX, L2.Takes X W → PS X st (tsD X.K X.w W ds)
abbrev RSs (X : Cx) (st : List Stmt) (ds : DS) : Prop := ∀ W : WX, L2.Takes X W → PSs X st (tsD X.K X.w W ds)

/-! ### names, constants -/
def dVar (i : Nat) : DE := fun E M Q => match E[i]? with
  | some (some d) => Q d M
  | _ => False
def dC (d : D) : DE := fun _ M Q => Q d M
section
variable {X : Cx}
theorem re_var (i : Nat) {x : Str} {pos : Pos} (h : PE X (.Name x pos) (tVar i)) : RE X (.Name x pos) (dVar i) := pe_imp h fun σ H Q ⟨E, M, Q', sl, rm, h, k⟩ => by
  unfold dVar at h
  split at h
  · rename_i d q
    obtain ⟨v, e, r⟩ := sl.at_ i d q
    exact ⟨v, e, k v H d M (Tx.refl H) rm r h⟩
  · exact h.elim
theorem re_c {e : Expr} {v : V} {d : D} (h : PE X e (tC v)) (r : ∀ H, Rep X.K X.w H d v) : RE X e (dC d) := pe_imp h fun σ H Q ⟨E, M, Q', sl, rm, h, k⟩ => k v H d M (Tx.refl H) rm (r H) h
theorem re_int {i j pos} : RE X (.Constant (.int i) j pos) (dC (.int i)) := re_c pe_int fun _ => .int i
theorem re_bl {b j pos} : RE X (.Constant (.bool b) j pos) (dC (.bl b)) := re_c pe_bl fun _ => .bl b
theorem re_non {j pos} : RE X (.Constant .none j pos) (dC .non) := re_c pe_non fun _ => .non
theorem re_str {x j pos} : RE X (.Constant (.str x) j pos) (dC (.str x)) := re_c pe_str fun _ => .str x
end

/-! ### operations by value -/
abbrev D2 := D → D → Mm → DQ → Prop
abbrev D1 := D → Mm → DQ → Prop
abbrev DL := List D → Mm → DQ → Prop
def R2R (K : PySem.W.Frag) (w : World) (r : R2) (o : D2) : Prop := ∀ dx dy M Q' x y H Q, Rm K w H M → Rep K w H dx x → Rep K w H dy y → o dx dy M Q' → Kc K w H Q' Q → r x y H Q
def R1R (K : PySem.W.Frag) (w : World) (r : V → Hp → VK → Prop) (o : D1) : Prop := ∀ dx M Q' x H Q, Rm K w H M → Rep K w H dx x → o dx M Q' → Kc K w H Q' Q → r x H Q
def RLR (K : PySem.W.Frag) (w : World) (r : List V → Hp → VK → Prop) (o : DL) : Prop := ∀ ds M Q' xs H Q, Rm K w H M → RepL K w H ds xs → o ds M Q' → Kc K w H Q' Q → r xs H Q
def dOp (o : D2) (da db : DE) : DE := fun E M Q => da E M fun x M1 => db E M1 fun y M2 => o x y M2 Q
def dUn (o : D1) (da : DE) : DE := fun E M Q => da E M fun x M1 => o x M1 Q
def dNil : DA := fun _ M Q => Q [] M
def dCons (da : DE) (dr : DA) : DA := fun E M Q => da E M fun x M1 => dr E M1 fun xs M2 => Q (x :: xs) M2
def dL (o : DL) (da : DA) : DE := fun E M Q => da E M fun ds M1 => o ds M1 Q
def dTup (da : DA) : DE := fun E M Q => da E M fun ds M1 => ds.length ≤ sizeLine ∧ Q (.tup ds) M1
def dLst (da : DA) : DE := fun E M Q => da E M fun ds M1 => ds.length ≤ sizeLine ∧ ∀ p, M1 p = none → Q (.ref p) (updM M1 p (.lst ds))
section
variable {X : Cx} {a b : Expr} {da db : DE} {pos : Pos}
theorem tD_op {K : PySem.W.Frag} {w : World} {r : R2} {o : D2} (hr : R2R K w r o) {σ : L2.St} {H : Hp} {Q : VK} (h : tD K w (dOp o da db) σ H Q) : tOp r (tD K w da) (tD K w db) σ H Q := by
  obtain ⟨E, M, Q', sl, rm, h, k⟩ := h
  refine ⟨E, M, _, sl, rm, h, fun v H1 d M1 t1 rm1 r1 q1 => ⟨E, M1, _, sl.mono t1, rm1, q1, fun v2 H2 d2 M2 t2 rm2 r2 q2 => ?_⟩⟩
  exact hr _ _ _ _ _ _ _ _ rm2 (r1.mono t2) r2 q2 (k.tx (t1.trans t2))
theorem re_op {op : Operator} {r : R2} {o : D2} (ho : OpR X (binaryOp op) r) (hr : R2R X.K X.w r o) (ha : RE X a da) (hb : RE X b db) : RE X (.BinOp a op b pos) (dOp o da db) :=
  pe_imp (pe_op ho ha hb) fun σ H Q h => tD_op hr h
theorem re_cmp {op : CmpOp} {r : R2} {o : D2} (ho : OpR X (compareOp op) r) (hr : R2R X.K X.w r o) (ha : RE X a da) (hb : RE X b db) (hm : behindInMarks op b = false) : RE X (.Compare a [op] [b] pos) (dOp o da db) :=
  pe_imp (pe_cmpR ho ha hb hm) fun σ H Q h => tD_op hr h
theorem re_ix {r : R2} {o : D2} (ho : IxR X r) (hr : R2R X.K X.w r o) (ha : RE X a da) (hb : RE X b db) (hs : PlainIx b) : RE X (.Subscript a b pos) (dOp o da db) :=
  pe_imp (pe_ix ho ha hb hs) fun σ H Q h => tD_op hr h
theorem re_un {op : UnaryOp} {r : V → Hp → VK → Prop} {o : D1} (ho : UnR X (unaryOp op) r) (hr : R1R X.K X.w r o) (ha : RE X a da) : RE X (.UnaryOp op a pos) (dUn o da) :=
  pe_imp (pe_un ho ha) fun σ H Q ⟨E, M, Q', sl, rm, h, k⟩ => ⟨E, M, _, sl, rm, h, fun v H1 d M1 t1 rm1 r1 q1 => hr _ _ _ _ _ _ rm1 r1 q1 (k.tx t1)⟩
theorem ra_nil : RA X [] dNil := pa_imp pa_nil fun σ H Q ⟨E, M, Q', sl, rm, h, k⟩ => k _ H _ M (Tx.refl H) rm .nil h
theorem ra_cons {e : Expr} {es : List Expr} {de : DE} {dr : DA} (ha : RE X e de) (hr : RA X es dr) (hs : starEach (e :: es) X.env = (false, eval e X.env) :: starEach es X.env := by rfl) : RA X (e :: es) (dCons de dr) :=
  pa_imp (pa_cons ha hr hs) fun σ H Q ⟨E, M, Q', sl, rm, h, k⟩ => by
    refine ⟨E, M, _, sl, rm, h, fun v H1 d M1 t1 rm1 r1 q1 => ⟨E, M1, _, sl.mono t1, rm1, q1, fun vs H2 ds M2 t2 rm2 r2 q2 => ?_⟩⟩
    exact k _ H2 _ M2 (t1.trans t2) rm2 (.cons (r1.mono t2) r2) q2
theorem re_tup {es : List Expr} {x1} {dr : DA} (h : RA X es dr) : RE X (.Tuple es x1 pos) (dTup dr) := pe_imp (pe_tup h) fun σ H Q ⟨E, M, Q', sl, rm, h, k⟩ => by
  refine ⟨E, M, _, sl, rm, h, fun vs H1 ds M1 t1 rm1 r1 q1 => ⟨by rw [r1.length]; exact q1.1, fun p hp => ?_⟩⟩
  exact k _ _ _ M1 (t1.trans (Tx.new hp)) (rm1.keepNew hp) (.tup (SqT.of upd_same) (r1.mono (Tx.new hp))) q1.2
theorem re_lst {es : List Expr} {dr : DA} (h : RA X es dr) : RE X (.List es pos) (dLst dr) := pe_imp (pe_lst h) fun σ H Q ⟨E, M, Q', sl, rm, h, k⟩ => by
  refine ⟨E, M, _, sl, rm, h, fun vs H1 ds M1 t1 rm1 r1 q1 => ⟨by rw [r1.length]; exact q1.1, fun p hp => ?_⟩⟩
  exact k _ _ _ _ (t1.trans (Tx.new hp)) (rm1.upd (mo := .lst ds) (Tx.new hp) ⟨vs, upd_same, r1.mono (Tx.new hp)⟩) (.ref p) (q1.2 p (rm1.free hp))
/-- a built-in called by its name -/
theorem re_callB {e : Expr} {es : List Expr} {x : Str} {p : Pos} {id : String} {r : List V → Hp → VK → Prop} {o : DL} {dr : DA} (hr : RLR X.K X.w r o) (hc : CallR X (.builtin id) r) (hg : Gl X x) (hm : X.mg x = none) (hv : bootBuiltins x = some (.builtin id)) (ha : RA X (e :: es) dr) (hn : x ≠ "__name__" := by decide) (hdb : (x == ("__debug__" : Str)) = false := by decide)
    (he : starEach (e :: es) X.env = (false, eval e X.env) :: starEach es X.env := by rfl) (hpl : (backTo pos (starEach es X.env)).any (·.1) = false := by rfl) : RE X (.Call (.Name x p) (e :: es) [] pos) (dL o dr) :=
  pe_imp (pe_callB hc hg hm hv ha hn hdb he hpl) fun σ H Q ⟨E, M, Q', sl, rm, h, k⟩ => ⟨E, M, _, sl, rm, h, fun vs H1 ds M1 t1 rm1 r1 q1 => hr _ _ _ _ _ _ rm1 r1 q1 (k.tx t1)⟩
theorem re_callTy {e : Expr} {es : List Expr} {x : Str} {p : Pos} {T : String} {r : List V → Hp → VK → Prop} {o : DL} {dr : DA} (hr : RLR X.K X.w r o) (hc : CallR X (.type T) r) (hg : Gl X x) (hm : X.mg x = none) (hv : bootBuiltins x = some (.type T)) (ha : RA X (e :: es) dr) (hn : x ≠ "__name__" := by decide) (hdb : (x == ("__debug__" : Str)) = false := by decide)
    (he : starEach (e :: es) X.env = (false, eval e X.env) :: starEach es X.env := by rfl) (hpl : (backTo pos (starEach es X.env)).any (·.1) = false := by rfl) : RE X (.Call (.Name x p) (e :: es) [] pos) (dL o dr) :=
  pe_imp (pe_callTy hc hg hm hv ha hn hdb he hpl) fun σ H Q ⟨E, M, Q', sl, rm, h, k⟩ => ⟨E, M, _, sl, rm, h, fun vs H1 ds M1 t1 rm1 r1 q1 => hr _ _ _ _ _ _ rm1 r1 q1 (k.tx t1)⟩
end

/-! ### a def's promise -/
def spD (K : PySem.W.Frag) (w : World) (sp : DSp) : Sp := fun vs H Q E => ∃ ds M Q' E', RepL K w H ds vs ∧ Rm K w H M ∧ sp ds M Q' E' ∧ Kc K w H Q' Q ∧ ∀ cls d H' M', Tx K H H' → Rm K w H' M' → E' cls d M' → E cls d H'
abbrev EX0 : DX := fun _ _ _ => False
def dCall (sp : DSp) (da : DA) : DE := fun E M Q => da E M fun ds M1 => sp ds M1 Q EX0
section
variable {X : Cx} {pos : Pos}
theorem re_call {CX : CXT} {k : Nat} {f : Addr} {fd : FuncData} {ps : List Str} {sp : DSp} {E : XK} {x : Str} {p : Pos} {e : Expr} {es : List Expr} {dr : DA} (F : FnOk X.prog X.w X.K X.mg X.base CX k f fd ps (spD X.K X.w sp)) (hr : Room k X.A) (hg : Gl X x) (hm : X.mg x = some (.ref f)) (hk : PySem.W.keepIn X.K (.ref f) = true) (hb : Binds X.K fd ps []) (hx : Passes CX X E)
    (ha : RA X (e :: es) dr) (hdb : (x == ("__debug__" : Str)) = false := by decide) (he : starEach (e :: es) X.env = (false, eval e X.env) :: starEach es X.env := by rfl) (hpl : (backTo pos (starEach es X.env)).any (·.1) = false := by rfl) :
    RE X (.Call (.Name x p) (e :: es) [] pos) (dCall sp dr) :=
  pe_imp (pe_call F hr hg hm hk hb .nil hx ha hdb he hpl) fun σ H Q ⟨E, M, Q', sl, rm, h, k⟩ => by
    refine ⟨E, M, _, sl, rm, h, fun vs H1 ds M1 t1 rm1 r1 q1 => ?_⟩
    show spD X.K X.w sp (vs ++ []) H1 Q _
    rw [List.append_nil]
    exact ⟨ds, M1, Q', EX0, r1, rm1, q1, k.tx t1, fun _ _ _ _ _ _ z => z.elim⟩
end
def startD (N : Nat) (ds : List D) : DEnv := ds.map some ++ List.replicate (N - ds.length) none
theorem repL_at {K : PySem.W.Frag} {w : World} {H : Hp} {N : List Str} {ds : List D} {vs : List V} (r : RepL K w H ds vs) : Sl K w H (start N vs) (startD N.length ds) := by
  have hl := r.length
  refine ⟨?_, fun i d e => ?_⟩
  · show (vs.map some ++ List.replicate (N.length - vs.length) none).length = (ds.map some ++ List.replicate (N.length - ds.length) none).length
    rw [List.length_append, List.length_append, List.length_map, List.length_map, List.length_replicate, List.length_replicate, hl]
  · unfold startD at e
    by_cases hi : i < ds.length
    · rw [List.getElem?_append_left (by rw [List.length_map]; exact hi), List.getElem?_map] at e
      obtain ⟨d', e1, e2⟩ := Option.map_eq_some_iff.mp e
      cases e2
      obtain ⟨x, h1, h2⟩ := r.get e1
      refine ⟨x, ?_, h2⟩
      show (vs.map some ++ List.replicate (N.length - vs.length) none)[i]? = _
      rw [List.getElem?_append_left (by rw [List.length_map, hl]; exact hi), List.getElem?_map, h1]
      rfl
    · rw [List.getElem?_append_right (by rw [List.length_map]; omega)] at e
      rw [List.getElem?_replicate] at e
      split at e <;> cases e
/-- THE RULE for a def: its body as a deep term, its promise from the reading -/
theorem fn_ok {P : Program} {w : World} {K : PySem.W.Frag} {mg : Str → Option Value} {base : Heap} {x qual : Str} {params : Arguments} {body : List Stmt} {scope : Scope} {f : Addr} {fd : FuncData} {N ps : List Str} {k : Nat} {sp : DSp} {b : DS}
    (F : FunD K x qual params body scope [] [] f fd) (S : FnScope N ps scope) (len : ∀ ds M Q E, sp ds M Q E → ds.length = ps.length)
    (hb : ∀ (cdv : Value) (A : Around) (outer : List Env) (s : Shared) (H : Hp) (E : XK), Room k (A.deeper (envOfC qual scope s.heap.objs.size f cdv)) → RSs (cxOf CX0 P w K mg base N qual scope f cdv A outer s H E).nox body b)
    (hq : ∀ ds M Q E, sp ds M Q E → b { nx := fun _ M' => Q .non M', rt := Q } (startD N.length ds) M) : FnOk P w K mg base CX0 (k + 1) f fd ps (spD K w sp) := by
  refine F.ok S (fun vs H Q E h => ?_) (fun cdv A outer s H vs Q E hr h => ?_)
  · obtain ⟨ds, M, Q', E', r, _, h, _⟩ := h
    rw [r.length]
    exact len _ _ _ _ h
  · obtain ⟨ds, M, Q', E', r, rm, h, kc, _⟩ := h
    refine ⟨_, (hb cdv A outer s H E hr (fun _ _ _ _ => False) takes0).nox, ⟨_, M, _, repL_at r, rm, hq _ _ _ _ h, ⟨fun σ' H' E' M' t _ rm' q => kc _ _ _ _ t rm' .non q, kc, fun _ _ _ _ _ _ _ z => z.elim, fun _ _ _ _ _ _ _ z => z.elim, fun _ _ _ _ _ _ _ _ _ z => z.elim⟩⟩⟩
end DH

set_option Elab.async false
set_option linter.all false
set_option autoImplicit false
set_option maxRecDepth 100000
set_option maxHeartbeats 2000000
/-! Deep readings: the operations by value. -/
namespace DH
open PySem PySem.Spec PyProof.Rows L2

def IsL (M : Mm) (a : Addr) (ds : List D) : Prop := M a = some (.lst ds)
section
variable {K : PySem.W.Frag} {w : World} {H : Hp} {M : Mm}
theorem IsL.sq {a : Addr} {ds : List D} (h : IsL M a ds) (rm : Rm K w H M) : ∃ xs, SqL K H a xs ∧ RepL K w H ds xs := by
  obtain ⟨xs, e, r⟩ := rm a _ h
  exact ⟨xs, .inl (.inl e), r⟩
theorem Rep.inv_int {i : Int} {v : V} (r : Rep K w H (.int i) v) : v = .int i := by cases r; rfl
theorem Rep.inv_str {i : Str} {v : V} (r : Rep K w H (.str i) v) : v = .str i := by cases r; rfl
theorem Rep.inv_bl {i : Bool} {v : V} (r : Rep K w H (.bl i) v) : v = .bl i := by cases r; rfl
theorem Rep.inv_ref {i : Addr} {v : V} (r : Rep K w H (.ref i) v) : v = .ref i := by cases r; rfl
theorem Rep.inv_non {v : V} (r : Rep K w H .non v) : v = .non := by cases r; rfl
theorem Rep.inv_ty {i : String} {v : V} (r : Rep K w H (.ty i) v) : v = .ty i := by cases r; rfl
theorem Rep.inv_tup {ds : List D} {v : V} (r : Rep K w H (.tup ds) v) : ∃ a xs, v = .ref a ∧ SqT K H a xs ∧ RepL K w H ds xs := by
  cases r with
  | tup h l => exact ⟨_, _, rfl, h, l⟩
theorem Rep.inv_fl {ds : List D} {v : V} (r : Rep K w H (.fl ds) v) : ∃ a xs, v = .ref a ∧ FzL K H a xs ∧ RepL K w H ds xs := by
  cases r with
  | fl h l => exact ⟨_, _, rfl, h, l⟩
theorem Rep.inv_kd {ds : List (Str × D)} {v : V} (r : Rep K w H (.kd ds) v) : ∃ a, v = .ref a ∧ KdAt K w a ds := by
  cases r with
  | kd h => exact ⟨_, rfl, h⟩
theorem Kc.now {Q' : DQ} {Q : VK} {d : D} {v : V} (k : Kc K w H Q' Q) (rm : Rm K w H M) (r : Rep K w H d v) (q : Q' d M) : Q v H := k v H d M (Tx.refl H) rm r q
theorem Kc.newL {Q' : DQ} {Q : VK} {ds : List D} {xs : List V} (k : Kc K w H Q' Q) (rm : Rm K w H M) (r : RepL K w H ds xs) (q : ∀ p, M p = none → Q' (.ref p) (updM M p (.lst ds))) : ∀ p, H p = none → Q (.ref p) (L2.upd H p (.lst xs)) := fun p hp =>
  k _ _ _ _ (Tx.new hp) (rm.upd (mo := .lst ds) (Tx.new hp) ⟨xs, upd_same, r.mono (Tx.new hp)⟩) (.ref p) (q p (rm.free hp))
theorem Kc.newT {Q' : DQ} {Q : VK} {ds : List D} {xs : List V} (k : Kc K w H Q' Q) (rm : Rm K w H M) (r : RepL K w H ds xs) (q : Q' (.tup ds) M) : ∀ p, H p = none → Q (.ref p) (L2.upd H p (.tup xs)) := fun p hp =>
  k _ _ _ _ (Tx.new hp) (rm.keepNew hp) (.tup (SqT.of upd_same) (r.mono (Tx.new hp))) q
end

/-! ### arithmetic -/
def oInt (g : Int → Int → D) : D2 := fun x y M Q => match x, y with
  | .int i, .int j => Q (g i j) M
  | _, _ => False
def oIntC (C : Int → Int → Prop) (g : Int → Int → D) : D2 := fun x y M Q => match x, y with
  | .int i, .int j => C i j ∧ Q (g i j) M
  | _, _ => False
def oAdd : D2 := fun x y M Q => match x, y with
  | .int i, .int j => Q (.int (i + j)) M
  | .int i, .bl k => Q (.int (i + b2i k)) M
  | .str a, .str b => a.length + b.length ≤ sizeLine ∧ Q (.str (a ++ b)) M
  | .tup a, .tup b => a.length + b.length ≤ sizeLine ∧ Q (.tup (a ++ b)) M
  | .ref a, .ref b => ∃ xs ys, M a = some (.lst xs) ∧ M b = some (.lst ys) ∧ xs.length + ys.length ≤ sizeLine ∧ ∀ p, M p = none → Q (.ref p) (updM M p (.lst (xs ++ ys)))
  | _, _ => False
abbrev oSub : D2 := oInt fun i j => .int (i - j)
abbrev oMul : D2 := oIntC CMul fun i j => .int (i * j)
abbrev oFdiv : D2 := oIntC CDiv fun i j => .int (i / j)
abbrev oMod : D2 := oIntC (fun _ j => 0 < j) fun i j => .int (i % j)
abbrev oPow : D2 := oIntC CPow fun i j => .int (i ^ j.toNat)
abbrev oShl : D2 := oIntC CPow fun i j => .int (i * 2 ^ j.toNat)
abbrev oShr : D2 := oIntC (fun _ j => 0 ≤ j) fun i j => .int (i / 2 ^ j.toNat)
abbrev oAnd : D2 := oInt fun i j => .int (Builtin.bitAnd i j)
abbrev oOr : D2 := oInt fun i j => .int (Builtin.bitOr i j)
abbrev oXor : D2 := oInt fun i j => .int (Builtin.bitXor i j)
section
variable {K : PySem.W.Frag} {w : World} {X : Cx} {a b : Expr} {da db : DE} {pos : Pos}
theorem rr_int {g : Int → Int → V} {g' : Int → Int → D} (hg : ∀ i j H, Rep K w H (g' i j) (g i j)) : R2R K w (rI0 g) (oInt g') := fun dx dy M Q' x y H Q rm rx ry h k => by
  unfold oInt at h
  split at h
  · rename_i i j
    exact ⟨i, j, rx.inv_int, ry.inv_int, k.now rm (hg i j H) h⟩
  · exact h.elim
theorem rr_intC {C : Int → Int → Prop} {g : Int → Int → V} {g' : Int → Int → D} (hg : ∀ i j H, Rep K w H (g' i j) (g i j)) : R2R K w (rI C g) (oIntC C g') := fun dx dy M Q' x y H Q rm rx ry h k => by
  unfold oIntC at h
  split at h
  · rename_i i j
    exact ⟨i, j, rx.inv_int, ry.inv_int, h.1, k.now rm (hg i j H) h.2⟩
  · exact h.elim
theorem re_sub (ha : RE X a da) (hb : RE X b db) : RE X (.BinOp a .Sub b pos) (dOp oSub da db) := re_op op_sub (rr_int fun _ _ _ => .int _) ha hb
theorem re_mul (ha : RE X a da) (hb : RE X b db) : RE X (.BinOp a .Mult b pos) (dOp oMul da db) := re_op op_mul (rr_intC fun _ _ _ => .int _) ha hb
theorem re_fdiv (ha : RE X a da) (hb : RE X b db) : RE X (.BinOp a .FloorDiv b pos) (dOp oFdiv da db) := re_op op_fdiv (rr_intC fun _ _ _ => .int _) ha hb
theorem re_mod (ha : RE X a da) (hb : RE X b db) : RE X (.BinOp a .Mod b pos) (dOp oMod da db) := re_op op_mod (rr_intC fun _ _ _ => .int _) ha hb
theorem re_pow (ha : RE X a da) (hb : RE X b db) : RE X (.BinOp a .Pow b pos) (dOp oPow da db) := re_op op_pow (rr_intC fun _ _ _ => .int _) ha hb
theorem re_shl (ha : RE X a da) (hb : RE X b db) : RE X (.BinOp a .LShift b pos) (dOp oShl da db) := re_op op_shl (rr_intC fun _ _ _ => .int _) ha hb
theorem re_shr (ha : RE X a da) (hb : RE X b db) : RE X (.BinOp a .RShift b pos) (dOp oShr da db) := re_op op_shr (rr_intC fun _ _ _ => .int _) ha hb
theorem re_band (ha : RE X a da) (hb : RE X b db) : RE X (.BinOp a .BitAnd b pos) (dOp oAnd da db) := re_op op_and (rr_int fun _ _ _ => .int _) ha hb
theorem re_bor (ha : RE X a da) (hb : RE X b db) : RE X (.BinOp a .BitOr b pos) (dOp oOr da db) := re_op op_or (rr_int fun _ _ _ => .int _) ha hb
theorem re_bxor (ha : RE X a da) (hb : RE X b db) : RE X (.BinOp a .BitXor b pos) (dOp oXor da db) := re_op op_xor (rr_int fun _ _ _ => .int _) ha hb
theorem re_add (ha : RE X a da) (hb : RE X b db) : RE X (.BinOp a .Add b pos) (dOp oAdd da db) := by
  refine re_op (OpR.or op_add (OpR.or op_add_ib (OpR.or op_add_str (OpR.or op_catA op_cat)))) (fun dx dy M Q' x y H Q rm rx ry h k => ?_) ha hb
  unfold oAdd at h
  split at h
  · rename_i i j
    exact .inl ⟨i, j, rx.inv_int, ry.inv_int, k.now rm (.int _) h⟩
  · rename_i i j
    exact .inr (.inl ⟨i, j, rx.inv_int, ry.inv_bl, k.now rm (.int _) h⟩)
  · rename_i i j
    exact .inr (.inr (.inl ⟨i, j, rx.inv_str, ry.inv_str, h.1, k.now rm (.str _) h.2⟩))
  · rename_i i j
    obtain ⟨p, xs, rfl, h1, l1⟩ := rx.inv_tup
    obtain ⟨q, ys, rfl, h2, l2⟩ := ry.inv_tup
    refine .inr (.inr (.inr (.inl ⟨p, q, xs, ys, rfl, rfl, h1, h2, by rw [l1.length, l2.length]; exact h.1, fun e => ?_, fun _ e => ?_, fun _ _ => k.newT rm (l1.append l2) h.2⟩)))
    · subst e
      cases l1
      exact k.now rm (.tup h2 l2) h.2
    · subst e
      cases l2
      exact k.now rm (.tup h1 (by rw [List.append_nil]; exact l1)) h.2
  · rename_i i j
    obtain ⟨xs, ys, h1, h2, h3, h4⟩ := h
    obtain ⟨us, e1, l1⟩ := rm _ _ h1
    obtain ⟨vs, e2, l2⟩ := rm _ _ h2
    exact .inr (.inr (.inr (.inr ⟨_, _, us, vs, rx.inv_ref, ry.inv_ref, e1, e2, by rw [l1.length, l2.length]; exact h3, k.newL rm (l1.append l2) h4⟩)))
  · exact h.elim
def oNeg : D1 := fun x M Q => match x with
  | .int i => Q (.int (-i)) M
  | _ => False
theorem re_neg (ha : RE X a da) : RE X (.UnaryOp .USub a pos) (dUn oNeg da) := re_un un_neg (fun dx M Q' x H Q rm rx h k => by
  unfold oNeg at h
  split at h
  · rename_i i
    exact ⟨i, rx.inv_int, k.now rm (.int _) h⟩
  · exact h.elim) ha

/-! ### comparisons -/
abbrev oLt : D2 := oInt fun i j => .bl (decide (i < j))
abbrev oLe : D2 := oInt fun i j => .bl (decide (i ≤ j))
abbrev oGt : D2 := oInt fun i j => .bl (decide (j < i))
abbrev oGe : D2 := oInt fun i j => .bl (decide (j ≤ i))
theorem rr_lt : R2R K w (rI0 fun i j => .bl (decide (i < j))) oLt := rr_int fun _ _ _ => .bl _
theorem rr_le : R2R K w (rI0 fun i j => .bl (decide (i ≤ j))) oLe := rr_int fun _ _ _ => .bl _
theorem rr_gt : R2R K w (rI0 fun i j => .bl (decide (j < i))) oGt := rr_int fun _ _ _ => .bl _
theorem rr_ge : R2R K w (rI0 fun i j => .bl (decide (j ≤ i))) oGe := rr_int fun _ _ _ => .bl _
end
mutual
/-- data without bools among them that stand beside ints, without addresses: what == tells -/
def eqD : D → D → Bool
  | .non, .non => true
  | .bl a, .bl b => a == b
  | .bl a, .int j => (if a then 1 else 0) == j
  | .int i, .bl b => i == (if b then 1 else 0)
  | .int i, .int j => i == j
  | .str a, .str b => a == b
  | .tup xs, .tup ys => eqDs xs ys
  | _, _ => false
def eqDs : List D → List D → Bool
  | [], [] => true
  | x :: xs, y :: ys => eqD x y && eqDs xs ys
  | _, _ => false
end
mutual
/-- no address, no class in it -/
def pureD : D → Bool
  | .non | .bl _ | .int _ | .str _ => true
  | .tup xs => pureDs xs
  | _ => false
def pureDs : List D → Bool
  | [] => true
  | x :: xs => pureD x && pureDs xs
end
mutual
def toPD : D → PyData
  | .non => .none
  | .bl b => .bool b
  | .int i => .int i
  | .str x => .str x
  | .tup xs => .tuple (toPDs xs)
  | _ => .none
def toPDs : List D → List PyData
  | [] => []
  | x :: xs => toPD x :: toPDs xs
end
section
variable {K : PySem.W.Frag} {w : World} {H : Hp}
mutual
theorem dp_of : ∀ {d : D} {v : V}, Rep K w H d v → pureD d = true → Dp K H v (toPD d)
  | _, _, .non, _ => by unfold toPD; exact .non
  | _, _, .bl b, _ => by unfold toPD; exact .bl b
  | _, _, .int i, _ => by unfold toPD; exact .int i
  | _, _, .str x, _ => by unfold toPD; exact .str x
  | _, _, .ref a, h => by unfold pureD at h; cases h
  | _, _, .ty n, h => by unfold pureD at h; cases h
  | _, _, .kd n, h => by unfold pureD at h; cases h
  | _, _, .fl _ _, h => by unfold pureD at h; cases h
  | _, _, .tup s l, h => by
    unfold pureD at h
    unfold toPD
    exact .tup s (dps_of l h)
theorem dps_of : ∀ {ds : List D} {xs : List V}, RepL K w H ds xs → pureDs ds = true → DpAll K H xs (toPDs ds)
  | _, _, .nil, _ => by unfold toPDs; exact .nil
  | _, _, .cons r l, h => by
    unfold pureDs at h
    obtain ⟨h1, h2⟩ := Bool.and_eq_true_iff.mp h
    unfold toPDs
    exact .cons (dp_of r h1) (dps_of l h2)
end
end

/-- what a value is as data: lists too -/
inductive Vw (M : Mm) : D → PyData → Prop
  | non : Vw M .non .none
  | bl (b : Bool) : Vw M (.bl b) (.bool b)
  | int (i : Int) : Vw M (.int i) (.int i)
  | str (x : Str) : Vw M (.str x) (.str x)
  | lst {a : Addr} {ds : List D} (ps : List PyData) : IsL M a ds → ds.length = ps.length → (∀ (i : Nat) d p, ds[i]? = some d → ps[i]? = some p → Vw M d p) → Vw M (.ref a) (.list ps)
  | tup {ds : List D} (ps : List PyData) : ds.length = ps.length → (∀ (i : Nat) d p, ds[i]? = some d → ps[i]? = some p → Vw M d p) → Vw M (.tup ds) (.tuple ps)
section
variable {K : PySem.W.Frag} {w : World} {H : Hp} {M : Mm}
theorem dpAll_of {xs : List V} : ∀ {ps : List PyData}, xs.length = ps.length → (∀ (i : Nat) x p, xs[i]? = some x → ps[i]? = some p → Dp K H x p) → DpAll K H xs ps := by
  induction xs with
  | nil =>
    intro ps hl h
    cases ps with
    | nil => exact .nil
    | cons p ps => cases hl
  | cons x xs ih =>
    intro ps hl h
    cases ps with
    | nil => cases hl
    | cons p ps => exact .cons (h 0 x p rfl rfl) (ih (by simpa using hl) fun i x p a b => h (i + 1) x p (by simpa using a) (by simpa using b))
theorem RepL.inv {ds : List D} {xs : List V} (r : RepL K w H ds xs) {i : Nat} {x : V} (e : xs[i]? = some x) : ∃ d, ds[i]? = some d ∧ Rep K w H d x := by
  have hi := (List.getElem?_eq_some_iff.mp e).1
  rw [r.length] at hi
  obtain ⟨y, h1, h2⟩ := r.get (i := i) (d := ds[i]) (List.getElem?_eq_getElem hi)
  rw [e] at h1; cases h1
  exact ⟨_, List.getElem?_eq_getElem hi, h2⟩
theorem Vw.dp (rm : Rm K w H M) : ∀ {d : D} {p : PyData}, Vw M d p → ∀ {v : V}, Rep K w H d v → Dp K H v p := by
  intro d p h
  induction h with
  | non => intro v r; rw [r.inv_non]; exact .non
  | bl b => intro v r; rw [r.inv_bl]; exact .bl b
  | int b => intro v r; rw [r.inv_int]; exact .int b
  | str b => intro v r; rw [r.inv_str]; exact .str b
  | lst ps hl hn _ ih =>
    intro v r
    rw [r.inv_ref]
    obtain ⟨xs, sq, l⟩ := hl.sq rm
    refine .lst sq (dpAll_of (by rw [l.length]; exact hn) fun i x p a b => ?_)
    obtain ⟨d, e, rr⟩ := l.inv a
    exact ih i d p e b rr
  | tup ps hn _ ih =>
    intro v r
    obtain ⟨a, xs, rfl, sq, l⟩ := r.inv_tup
    refine .tup sq (dpAll_of (by rw [l.length]; exact hn) fun i x p a b => ?_)
    obtain ⟨d, e, rr⟩ := l.inv a
    exact ih i d p e b rr
end
/-! ### dicts as pairs -/
def keyD : Key → D
  | .inl i => .int i
  | .inr x => .str x
def valD (kvs : List (Key × D)) (k : Key) : Option D := (kvs.find? fun kv => decide (kv.1 = k)).map (·.2)
def putD (kvs : List (Key × D)) (k : Key) (v : D) : List (Key × D) :=
  if (kvs.any fun kv => decide (kv.1 = k)) = true then kvs.map (fun kv => if kv.1 = k then (kv.1, v) else kv) else kvs ++ [(k, v)]
section
variable {K : PySem.W.Frag} {w : World} {H : Hp} {M : Mm}
theorem keyD_rep {k : Key} {v : V} (r : Rep K w H (keyD k) v) : v = kV k := by
  cases k with
  | inl i => exact r.inv_int
  | inr x => exact r.inv_str
theorem RepF.val : ∀ {kvs : List (Key × D)} {gs : List (Key × V)}, RepF K w H kvs gs → ∀ (k : Key), (∀ d, valD kvs k = some d → ∃ x, valV gs k = some x ∧ Rep K w H d x) ∧ (valD kvs k = none → valV gs k = none)
  | _, _, .nil, k => ⟨fun d h => by simp [valD] at h, fun _ => rfl⟩
  | _, _, .cons (k := k') r l, k => by
    have ih := RepF.val l k
    by_cases e : k' = k
    · refine ⟨fun d h => ?_, fun h => ?_⟩
      · simp only [valD, List.find?_cons, decide_eq_true e, Option.map_some] at h
        cases h
        exact ⟨_, valV_pos e, r⟩
      · simp only [valD, List.find?_cons, decide_eq_true e, Option.map_some] at h
        cases h
    · refine ⟨fun d h => ?_, fun h => ?_⟩
      · simp only [valD, List.find?_cons, decide_eq_false e] at h
        rw [valV_neg e]
        exact ih.1 d h
      · simp only [valD, List.find?_cons, decide_eq_false e] at h
        rw [valV_neg e]
        exact ih.2 h
theorem RepF.val_isSome {kvs : List (Key × D)} {gs : List (Key × V)} (r : RepF K w H kvs gs) (k : Key) : (valV gs k).isSome = (valD kvs k).isSome := by
  cases e : valD kvs k with
  | none => rw [(r.val k).2 e]; rfl
  | some d => obtain ⟨x, h, _⟩ := (r.val k).1 d e; rw [h]; rfl
theorem RepF.append {κ : Type} : ∀ {fs fs' : List (κ × D)} {gs gs' : List (κ × V)}, RepF K w H fs gs → RepF K w H fs' gs' → RepF K w H (fs ++ fs') (gs ++ gs')
  | _, _, _, _, .nil, r => r
  | _, _, _, _, .cons h l, r => .cons h (RepF.append l r)
theorem RepF.any {kvs : List (Key × D)} {gs : List (Key × V)} (r : RepF K w H kvs gs) (k : Key) : (gs.any fun kv => decide (kv.1 = k)) = (kvs.any fun kv => decide (kv.1 = k)) := by
  induction r with
  | nil => rfl
  | cons h l ih => rw [List.any_cons, List.any_cons, ih]
theorem RepF.repl {kvs : List (Key × D)} {gs : List (Key × V)} (r : RepF K w H kvs gs) (k : Key) {d : D} {x : V} (rx : Rep K w H d x) :
    RepF K w H (kvs.map fun kv => if kv.1 = k then (kv.1, d) else kv) (gs.map fun kv => if kv.1 = k then (kv.1, x) else kv) := by
  induction r with
  | nil => exact .nil
  | @cons k' d' x' fs gs h l ih =>
    rw [List.map_cons, List.map_cons]
    by_cases e : k' = k
    · rw [if_pos e, if_pos e]; exact .cons rx ih
    · rw [if_neg e, if_neg e]; exact .cons h ih
theorem RepF.put {kvs : List (Key × D)} {gs : List (Key × V)} (r : RepF K w H kvs gs) (k : Key) {d : D} {x : V} (rx : Rep K w H d x) : RepF K w H (putD kvs k d) (putK gs k x) := by
  unfold putD putK
  rw [r.any k]
  split
  · exact r.repl k rx
  · exact r.append (.cons rx .nil)
end

/-! ### equality -/
def scalEq : D → D → Option Bool
  | .int i, .int j => some (decide (i = j))
  | .str i, .str j => some (decide (i = j))
  | .bl i, .bl j => some (decide (i = j))
  | .non, .non => some true
  | .int _, .str _ => some false
  | .str _, .int _ => some false
  | .non, .int _ => some false
  | .int _, .non => some false
  | .non, .bl _ => some false
  | .bl _, .non => some false
  | .non, .str _ => some false
  | .str _, .non => some false
  | .bl _, .str _ => some false
  | .str _, .bl _ => some false
  | _, _ => none
/-- two dicts of the same data -/
def sameDk (x y : D) (M : Mm) : Prop := ∃ a b kvs kvs', x = .ref a ∧ y = .ref b ∧ M a = some (.dk kvs) ∧ M b = some (.dk kvs') ∧ kvs.length = kvs'.length ∧ ∀ kv ∈ kvs, valD kvs' kv.1 = some kv.2 ∧ pureD kv.2 = true ∧ SeqAt.shaped (toPD kv.2) = true
def oEq : D2 := fun x y M Q => match scalEq x y with
  | some b => Q (.bl b) M
  | none => (∃ p q, Vw M x p ∧ Vw M y q ∧ SeqAt.shaped p = true ∧ SeqAt.shaped q = true ∧ Q (.bl (PyData.eqv p q)) M) ∨ (sameDk x y M ∧ Q (.bl true) M)
def oNe : D2 := fun x y M Q => match scalEq x y with
  | some b => Q (.bl (!b)) M
  | none => ∃ p q, Vw M x p ∧ Vw M y q ∧ SeqAt.shaped p = true ∧ SeqAt.shaped q = true ∧ Q (.bl (!PyData.eqv p q)) M
theorem scal_ok {K : PySem.W.Frag} {w : World} {H : Hp} {x y : D} {b : Bool} (h : scalEq x y = some b) {v u : V} (rx : Rep K w H x v) (ry : Rep K w H y u) : scal v u = true ∧ decide (v = u) = b := by
  unfold scalEq at h
  split at h
  · rw [rx.inv_int, ry.inv_int]; cases h; exact ⟨rfl, by simp⟩
  · rw [rx.inv_str, ry.inv_str]; cases h; exact ⟨rfl, by simp⟩
  · rw [rx.inv_bl, ry.inv_bl]; cases h; exact ⟨rfl, by simp⟩
  · rw [rx.inv_non, ry.inv_non]; cases h; exact ⟨rfl, by simp⟩
  · rw [rx.inv_int, ry.inv_str]; cases h; exact ⟨rfl, by simp⟩
  · rw [rx.inv_str, ry.inv_int]; cases h; exact ⟨rfl, by simp⟩
  · rw [rx.inv_non, ry.inv_int]; cases h; exact ⟨rfl, by simp⟩
  · rw [rx.inv_int, ry.inv_non]; cases h; exact ⟨rfl, by simp⟩
  · rw [rx.inv_non, ry.inv_bl]; cases h; exact ⟨rfl, by simp⟩
  · rw [rx.inv_bl, ry.inv_non]; cases h; exact ⟨rfl, by simp⟩
  · rw [rx.inv_non, ry.inv_str]; cases h; exact ⟨rfl, by simp⟩
  · rw [rx.inv_str, ry.inv_non]; cases h; exact ⟨rfl, by simp⟩
  · rw [rx.inv_bl, ry.inv_str]; cases h; exact ⟨rfl, by simp⟩
  · rw [rx.inv_str, ry.inv_bl]; cases h; exact ⟨rfl, by simp⟩
  · cases h
section
variable {K : PySem.W.Frag} {w : World}
/-- what two values are, the same data -/
def SameP (K : PySem.W.Frag) (H : Hp) (x y : V) : Prop := ∃ d, Dp K H x d ∧ Dp K H y d ∧ SeqAt.shaped d = true
def rEqK (K : PySem.W.Frag) : R2 := fun x y H Q => EqR K H (SameP K H) x y ∧ Q (.bl true) H
theorem op_eqK {X : Cx} (hu : X.A.units + 66 < cLine) : OpR X (compareOp .Eq) (rEqK X.K) := by
  intro pins s σ H x y v u Q I rx ry h
  obtain ⟨h, q⟩ := h
  refine eqR_run I (A := X.A) (by omega) (fun x y v u f rx ry => ?_) h rx ry _ _ ⟨.bl true, H, I, rfl, q⟩
  obtain ⟨d, h1, h2, h3⟩ := f
  obtain ⟨as, r1⟩ := Dp.reads I d x v h1 rx
  obtain ⟨bs, r2⟩ := Dp.reads I d y u h2 ry
  have e := SeqAt.eqAt_reads d d X.A.in1 s v u as bs r1 r2 (SeqAt.canLay_of_shaped h3) (SeqAt.canLay_of_shaped h3) (SeqAt.room_of_shaped h3 (by show X.A.units + 1 + 64 < cLine; omega))
  rw [SeqAt.eqv_refl d (SeqAt.canLay_of_shaped h3)] at e
  exact e.eqP
theorem RepF.memb {H : Hp} {kvs : List (Key × D)} {gs : List (Key × V)} (r : RepF K w H kvs gs) : ∀ p ∈ gs, ∃ kv ∈ kvs, kv.1 = p.1 ∧ Rep K w H kv.2 p.2 := by
  induction r with
  | nil => intro p hp; cases hp
  | @cons k d x fs gs h l ih =>
    intro p hp
    rcases List.mem_cons.mp hp with rfl | hp
    · exact ⟨(k, d), by simp, rfl, h⟩
    · obtain ⟨kv, h1, h2⟩ := ih p hp
      exact ⟨kv, List.mem_cons_of_mem _ h1, h2⟩
theorem rr_eq : R2R K w (fun x y H Q => (rEq x y H Q ∨ rEqD K x y H Q) ∨ rEqK K x y H Q) oEq := fun dx dy M Q' x y H Q rm rx ry h k => by
  unfold oEq at h
  split at h
  · rename_i b q
    obtain ⟨h1, h2⟩ := scal_ok q rx ry
    exact .inl (.inl ⟨h1, by rw [h2]; exact k.now rm (.bl _) h⟩)
  · rcases h with ⟨p, q, h1, h2, h3, h4, h5⟩ | ⟨⟨a, b, kvs, kvs', rfl, rfl, ha, hb, hl, hall⟩, h5⟩
    · exact .inl (.inr ⟨p, q, h1.dp rm rx, h2.dp rm ry, h3, h4, k.now rm (.bl _) h5⟩)
    · obtain ⟨gs, g1, g2⟩ := rm a _ ha
      obtain ⟨gs', g1', g2'⟩ := rm b _ hb
      refine .inr ⟨.inr ⟨a, b, gs, gs', rx.inv_ref, ry.inv_ref, g1, g1', by rw [g2.length, g2'.length, hl], fun p hp => ?_⟩, k.now rm (.bl _) h5⟩
      obtain ⟨kv, m1, e1, r1⟩ := g2.memb p hp
      obtain ⟨v1, v2, v3⟩ := hall kv m1
      rw [e1] at v1
      obtain ⟨x, hx, rx2⟩ := (g2'.val p.1).1 _ v1
      exact ⟨x, hx, toPD kv.2, dp_of r1 v2, dp_of rx2 v2, v3⟩
theorem rr_ne : R2R K w (fun x y H Q => rNe x y H Q ∨ rNeD K x y H Q) oNe := fun dx dy M Q' x y H Q rm rx ry h k => by
  unfold oNe at h
  split at h
  · rename_i b q
    obtain ⟨h1, h2⟩ := scal_ok q rx ry
    exact .inl ⟨h1, by rw [h2]; exact k.now rm (.bl _) h⟩
  · obtain ⟨p, q, h1, h2, h3, h4, h5⟩ := h
    exact .inr ⟨p, q, h1.dp rm rx, h2.dp rm ry, h3, h4, k.now rm (.bl _) h5⟩
end
theorem op_eqA {X : Cx} (hu : X.A.units + 66 < cLine) : OpR X (compareOp .Eq) (fun x y H Q => (rEq x y H Q ∨ rEqD X.K x y H Q) ∨ rEqK X.K x y H Q) := OpR.or (OpR.or op_eq (op_eqD (Nat.lt_of_le_of_lt (Nat.add_le_add_left (by decide) _) hu))) (op_eqK hu)
theorem op_neA {X : Cx} (hu : X.A.units + 66 < cLine) : OpR X (compareOp .NotEq) (fun x y H Q => rNe x y H Q ∨ rNeD X.K x y H Q) := OpR.or op_ne (op_neD (Nat.lt_of_le_of_lt (Nat.add_le_add_left (by decide) _) hu))
theorem hu66 {k : Nat} {A : Around} (r : Room k A) : A.units + 66 < cLine := by have := r.un; omega

/-! ### membership -/
def flatD : D → Bool
  | .non | .bl _ | .int _ | .str _ => true
  | _ => false
def eqF : D → D → Bool
  | .non, .non => true
  | .bl a, .bl b => a == b
  | .bl a, .int j => (if a then 1 else 0) == j
  | .int i, .bl b => i == (if b then 1 else 0)
  | .int i, .int j => i == j
  | .str a, .str b => a == b
  | _, _ => false
def inD (x : D) (ds : List D) : Bool := ds.any fun y => eqF y x
section
variable {K : PySem.W.Frag} {w : World} {H : Hp} {M : Mm}
theorem flat_rep {d : D} {v : V} (r : Rep K w H d v) (h : flatD d = true) : flatV v = true := by
  cases r <;> first | rfl | cases h
theorem flat_all : ∀ {ds : List D} {xs : List V}, RepL K w H ds xs → ds.all flatD = true → xs.all flatV = true
  | _, _, .nil, _ => rfl
  | _, _, .cons r l, h => by
    rw [List.all_cons, Bool.and_eq_true] at h
    rw [List.all_cons, flat_rep r h.1, flat_all l h.2]; rfl
theorem eqF_rep {x y : D} {v u : V} (rx : Rep K w H x v) (ry : Rep K w H y u) (hx : flatD x = true) (hy : flatD y = true) : eqV v u = eqF x y := by
  cases rx <;> cases ry <;> first | rfl | (exfalso; revert hx hy; simp [flatD])
theorem inD_rep {x : D} {v : V} (rx : Rep K w H x v) (hx : flatD x = true) : ∀ {ds : List D} {xs : List V}, RepL K w H ds xs → ds.all flatD = true → inV v xs = inD x ds
  | _, _, .nil, _ => rfl
  | _, _, .cons r l, h => by
    rw [List.all_cons, Bool.and_eq_true] at h
    have ih := inD_rep rx hx l h.2
    unfold inV at ih ⊢
    unfold inD at ih ⊢
    rw [List.any_cons, List.any_cons, ih, eqF_rep r rx h.1 hx]
end
/-- a key of a dict -/
def isKeyD : D → Option Key
  | .int i => some (.inl i)
  | .str x => some (.inr x)
  | _ => none
theorem isKeyD_eq {x : D} {k : Key} (h : isKeyD x = some k) : x = keyD k := by
  unfold isKeyD at h
  split at h <;> cases h <;> rfl
def inM (x : D) (y : D) (M : Mm) (Q : Bool → Prop) : Prop := match x, y with
  | .str c, .str z => ∃ n, c = ⟨#[n]⟩ ∧ Q (decide (n ∈ z.cps.toList))
  | .str z, .kd kvs => Q (kvs.lookup z).isSome
  | x, .tup ds => flatD x = true ∧ ds.all flatD = true ∧ Q (inD x ds)
  | x, .ref a => (∃ ds, IsL M a ds ∧ flatD x = true ∧ ds.all flatD = true ∧ Q (inD x ds)) ∨ ∃ kvs k, M a = some (.dk kvs) ∧ isKeyD x = some k ∧ Q (valD kvs k).isSome
  | _, _ => False
def oIn (neg : Bool) : D2 := fun x y M Q => inM x y M fun b => Q (.bl (if neg then !b else b)) M
def rKd (K : PySem.W.Frag) (w : World) (neg : Bool) : R2 := fun x y H Q => ∃ d es n z r, KDict K w d es n ∧ x = .str z ∧ y = .ref d ∧ PySem.W.nsIn K d z = some r ∧ Q (.bl (if neg then !r.isSome else r.isSome)) H
def rDk (neg : Bool) : R2 := fun x y H Q => ∃ a o, y = .ref a ∧ DGet H a x o ∧ Q (.bl (if neg then !o.isSome else o.isSome)) H
section
variable {X : Cx}
theorem op_kdA : OpR X (compareOp .In) (rKd X.K X.w false) := fun pins s σ H x y v u Q I rx ry ⟨d, es, n, z, r, D, h1, h2, h3, h4⟩ => op_in_kd D pins s σ H x y v u Q I rx ry ⟨z, r, h1, h2, h3, h4⟩
theorem op_kdN : OpR X (compareOp .NotIn) (rKd X.K X.w true) := fun pins s σ H x y v u Q I rx ry ⟨d, es, n, z, r, D, h1, h2, h3, h4⟩ => op_notIn_kd D pins s σ H x y v u Q I rx ry ⟨z, r, h1, h2, h3, h4⟩
theorem op_dkA (hu : X.A.units + 1 < cLine) : OpR X (compareOp .In) (rDk false) := fun pins s σ H x y v u Q I rx ry ⟨a, o, h1, h2, h3⟩ => by
  subst h1
  cases (show u = Value.ref a from ry)
  exact d_in hu I h2 rx fun s' I' => ⟨.bl o.isSome, H, I', rfl, h3⟩
theorem op_dkN (hu : X.A.units + 1 < cLine) : OpR X (compareOp .NotIn) (rDk true) := fun pins s σ H x y v u Q I rx ry ⟨a, o, h1, h2, h3⟩ => by
  subst h1
  cases (show u = Value.ref a from ry)
  exact d_notIn hu I h2 rx fun s' I' => ⟨.bl (!o.isSome), H, I', rfl, h3⟩
def rInS (neg : Bool) : R2 := fun x y H Q => ∃ (c : Nat) (z : Str), x = .str ⟨#[c]⟩ ∧ y = .str z ∧ Q (.bl (if neg then !decide (c ∈ z.cps.toList) else decide (c ∈ z.cps.toList))) H
abbrev rInA (K : PySem.W.Frag) (w : World) (neg : Bool) : R2 := fun x y H Q => rInS neg x y H Q ∨ rKd K w neg x y H Q ∨ rIn K neg x y H Q ∨ rDk neg x y H Q
theorem op_inA (hu : X.A.units + 1 < cLine) : OpR X (compareOp .In) (rInA X.K X.w false) := by
  have h : OpR X (compareOp .In) (rInS false) := op_in_sign
  exact OpR.or h (OpR.or op_kdA (OpR.or op_in_seq (op_dkA hu)))
theorem op_notInA (hu : X.A.units + 1 < cLine) : OpR X (compareOp .NotIn) (rInA X.K X.w true) := by
  have h : OpR X (compareOp .NotIn) (rInS true) := op_notIn_sign
  exact OpR.or h (OpR.or op_kdN (OpR.or op_notIn_seq (op_dkN hu)))
end
theorem rr_in {K : PySem.W.Frag} {w : World} {neg : Bool} : R2R K w (rInA K w neg) (oIn neg) := fun dx dy M Q' x y H Q rm rx ry h k => by
  unfold oIn inM at h
  split at h
  · obtain ⟨n, h1, h2⟩ := h
    subst h1
    exact .inl ⟨n, _, rx.inv_str, ry.inv_str, k.now rm (.bl _) h2⟩
  · rename_i z kvs
    obtain ⟨a, rfl, ka⟩ := ry.inv_kd
    obtain ⟨es, n, kd, _⟩ := ka.kd
    cases e : kvs.lookup z with
    | none =>
      rw [e] at h
      exact .inr (.inl ⟨a, es, n, z, none, kd, rx.inv_str, rfl, ka.miss z e, k.now rm (.bl _) h⟩)
    | some d =>
      rw [e] at h
      obtain ⟨u, v, h1, h2, _⟩ := ka.hit z d e
      exact .inr (.inl ⟨a, es, n, z, some u, kd, rx.inv_str, rfl, h1, k.now rm (.bl _) h⟩)
  · obtain ⟨h1, h2, h3⟩ := h
    obtain ⟨a, xs, rfl, sq, l⟩ := ry.inv_tup
    exact .inr (.inr (.inl ⟨a, xs, rfl, .inr sq, flat_rep rx h1, flat_all l h2, k.now rm (.bl _) (by rw [inD_rep rx h1 l h2]; exact h3)⟩))
  · rename_i a
    rw [ry.inv_ref]
    rcases h with ⟨ds, h0, h1, h2, h3⟩ | ⟨kvs, kk, h0, h1, h2⟩
    · obtain ⟨xs, sq, l⟩ := h0.sq rm
      exact .inr (.inr (.inl ⟨a, xs, rfl, .inl sq, flat_rep rx h1, flat_all l h2, k.now rm (.bl _) (by rw [inD_rep rx h1 l h2]; exact h3)⟩))
    · obtain ⟨gs, e, r⟩ := rm _ _ h0
      have ex := isKeyD_eq h1
      subst ex
      rw [keyD_rep rx]
      exact .inr (.inr (.inr ⟨a, _, rfl, DGet.k e, k.now rm (.bl _) (by rw [r.val_isSome]; exact h2)⟩))
  · exact h.elim
end DH

set_option Elab.async false
set_option linter.all false
set_option autoImplicit false
set_option maxRecDepth 100000
set_option maxHeartbeats 2000000
/-! Deep readings: subscripts, slices, built-ins, tests. -/
namespace DH
open PySem PySem.Spec PyProof.Rows L2
theorem Flt.rep {K : PySem.W.Frag} {w : World} {H : Hp} {d : D} {v : V} (f : Flt d v) : Rep K w H d v := by
  cases f
  · exact .non
  · exact .bl _
  · exact .int _
  · exact .str _
theorem atI_rep {K : PySem.W.Frag} {w : World} {H : Hp} {ds : List D} {xs : List V} (l : RepL K w H ds xs) {i : Int} {d : D} (h : atI ds i = some d) : ∃ x, atI xs i = some x ∧ Rep K w H d x := by
  unfold atI at h ⊢
  rw [l.length]
  cases e : ixN ds.length i with
  | none => rw [e] at h; cases h
  | some j =>
    rw [e] at h
    exact l.get h
/-! ### subscripts -/
def oIx : D2 := fun x y M Q => match x, y with
  | .tup ds, .int i => ∃ d, atI ds i = some d ∧ Q d M
  | .str z, .int i => z.length ≤ sizeLine ∧ ∃ c, atI z.cps.toList i = some c ∧ Q (.str ⟨#[c]⟩) M
  | .kd kvs, .str z => ∃ d, kvs.lookup z = some d ∧ Q d M
  | .fl ds, .int i => ∃ d, atI ds i = some d ∧ Q d M
  | .ref a, y => (∃ ds i d, IsL M a ds ∧ y = .int i ∧ atI ds i = some d ∧ Q d M) ∨ ∃ kvs k d, M a = some (.dk kvs) ∧ isKeyD y = some k ∧ valD kvs k = some d ∧ Q d M
  | _, _ => False
def rIxK (K : PySem.W.Frag) (w : World) : R2 := fun x y H Q => ∃ d es n z u v, KDict K w d es n ∧ x = .ref d ∧ y = .str z ∧ PySem.W.nsIn K d z = some (some u) ∧ RelV v u ∧ Q v H
def rIxD : R2 := fun x y H Q => ∃ a v, x = .ref a ∧ DGet H a y (some v) ∧ Q v H
section
variable {X : Cx}
theorem ix_kd : IxR X (rIxK X.K X.w) := by
  intro value slice pins s σ H x y v u Q I rx ry h hs
  obtain ⟨d, es, n, z, u0, v0, D, rfl, rfl, h1, h2, h3⟩ := h
  have e : v = Value.ref d := rx
  subst e
  exact tail_any (kd_type D I) PySem.F.slot_dict_getitem.lookup (op_item_kd D pins s σ H (.ref d) (.str z) _ _ Q I rfl ry ⟨z, u0, v0, rfl, rfl, h1, h2, h3⟩) hs
theorem ix_dk (hu : X.A.units + 1 < cLine) : IxR X rIxD := by
  intro value slice pins s σ H x y v u Q I rx ry h hs
  obtain ⟨a, v0, rfl, g, q⟩ := h
  have e : v = Value.ref a := rx
  subst e
  exact tail_any (dict_typeIs I g) PySem.F.slot_dict_getitem.lookup (d_getItem hu I g ry fun w' s3 I3 rw' => ⟨v0, H, I3, rw', q⟩) hs
abbrev rIxA (K : PySem.W.Frag) (w : World) : R2 := fun x y H Q => rIxT K x y H Q ∨ rIxL K x y H Q ∨ rIxS x y H Q ∨ rIxK K w x y H Q ∨ rIxD x y H Q
theorem ix_all (hu : X.A.units + 1 < cLine) : IxR X (rIxA X.K X.w) := IxR.or ix_tup (IxR.or ix_list (IxR.or ix_str (IxR.or ix_kd (ix_dk hu))))
end
theorem rr_ix {K : PySem.W.Frag} {w : World} : R2R K w (rIxA K w) oIx := fun dx dy M Q' x y H Q rm rx ry h k => by
  unfold oIx at h
  split at h
  · obtain ⟨d, h1, h2⟩ := h
    obtain ⟨a, xs, rfl, sq, l⟩ := rx.inv_tup
    obtain ⟨v, e, r⟩ := atI_rep l h1
    exact .inl ⟨a, xs, _, v, rfl, ry.inv_int, sq, e, k.now rm r h2⟩
  · obtain ⟨h0, c, h1, h2⟩ := h
    exact .inr (.inr (.inl ⟨_, _, c, rx.inv_str, ry.inv_int, h0, h1, k.now rm (.str _) h2⟩))
  · obtain ⟨d, h1, h2⟩ := h
    obtain ⟨a, rfl, ka⟩ := rx.inv_kd
    obtain ⟨es, n, kd, _⟩ := ka.kd
    obtain ⟨u, v, g1, g2, g3⟩ := ka.hit _ _ h1
    exact .inr (.inr (.inr (.inl ⟨a, es, n, _, u, v, kd, rfl, ry.inv_str, g1, g2, k.now rm g3.rep h2⟩)))
  · obtain ⟨d, h1, h2⟩ := h
    obtain ⟨a, xs, rfl, sq, l⟩ := rx.inv_fl
    obtain ⟨v, e, r⟩ := atI_rep l h1
    exact .inr (.inl ⟨a, xs, _, v, rfl, ry.inv_int, sq.sq, e, k.now rm r h2⟩)
  · rw [rx.inv_ref]
    rcases h with ⟨ds, i, d, h0, h1, h2, h3⟩ | ⟨kvs, kk, d, h0, h1, h2, h3⟩
    · obtain ⟨xs, sq, l⟩ := h0.sq rm
      obtain ⟨v, e, r⟩ := atI_rep l h2
      subst h1
      exact .inr (.inl ⟨_, xs, i, v, rfl, ry.inv_int, sq, e, k.now rm r h3⟩)
    · obtain ⟨gs, e, r⟩ := rm _ _ h0
      have ex := isKeyD_eq h1
      subst ex
      obtain ⟨v, e1, e2⟩ := (r.val kk).1 d h2
      rw [keyD_rep ry]
      exact .inr (.inr (.inr (.inr ⟨_, v, rfl, by rw [← e1]; exact DGet.k e, k.now rm e2 h3⟩)))
  · exact h.elim

/-! ### slices -/
abbrev DO := DEnv → Mm → (Option Int → Mm → Prop) → Prop
def toD (K : PySem.W.Frag) (w : World) (do_ : DO) : TO := fun σ H Q => ∃ E M Q', Sl K w H σ E ∧ Rm K w H M ∧ do_ E M Q' ∧ ∀ o H' M', Tx K H H' → Rm K w H' M' → Q' o M' → Q o H'
def dNoPart : DO := fun _ M Q => Q none M
def dPart (de : DE) : DO := fun E M Q => de E M fun d M1 => match d with
  | .int i => Q (some i) M1
  | _ => False
def cutL (α : Type) (xs : List α) (lo hi : Option Int) : List α := (xs.drop (HT.sIx xs.length 0 lo)).take (HT.sIx xs.length xs.length hi - HT.sIx xs.length 0 lo)
def oSl (x : D) (lo hi : Option Int) (M : Mm) (Q : DQ) : Prop := match x with
  | .tup ds => Q (.tup (cutL D ds lo hi)) M
  | .str z => z.length ≤ sizeLine ∧ Q (.str (cutS z lo hi)) M
  | .ref a => ∃ ds, IsL M a ds ∧ ∀ p, M p = none → Q (.ref p) (updM M p (.lst (cutL D ds lo hi)))
  | _ => False
def dSl (de : DE) (dl dh : DO) : DE := fun E M Q => de E M fun x M1 => dl E M1 fun lo M2 => dh E M2 fun hi M3 => oSl x lo hi M3 Q
section
variable {X : Cx} {e : Expr} {de : DE} {lo hi : Option Expr} {dl dh : DO} {pos p2 : Pos}
theorem po_imp {o : Option Expr} {t t' : TO} (h : PO X o t) (i : ∀ σ H Q, t' σ H Q → t σ H Q) : PO X o t' := ⟨fun pins s σ H Q I q => h.run pins s σ H Q I (i σ H Q q)⟩
abbrev RO (X : Cx) (o : Option Expr) (d : DO) : Prop := PO X o (toD X.K X.w d)
theorem ro_none : RO X none dNoPart := po_imp po_none fun σ H Q ⟨E, M, Q', sl, rm, h, k⟩ => k _ H M (Tx.refl H) rm h
theorem ro_some (h : RE X e de) : RO X (some e) (dPart de) := po_imp (po_some h) fun σ H Q ⟨E, M, Q', sl, rm, h, k⟩ => ⟨E, M, _, sl, rm, h, fun v H1 d M1 t1 rm1 r1 q1 => by
  split at q1
  · rename_i i
    exact ⟨i, r1.inv_int, k _ _ _ t1 rm1 q1⟩
  · exact q1.elim⟩
theorem cut_rep {K : PySem.W.Frag} {w : World} {H : Hp} {ds : List D} {xs : List V} (l : RepL K w H ds xs) (lo hi : Option Int) : RepL K w H (cutL D ds lo hi) (cutV xs lo hi) := by
  unfold cutL cutV
  rw [l.length]
  exact (l.drop _).take _
theorem re_slice (he : RE X e de) (hl : RO X lo dl) (hh : RO X hi dh) : RE X (.Subscript e (.Slice lo hi none p2) pos) (dSl de dl dh) :=
  pe_imp (pe_slice (SlR.or sl_tupA (SlR.or sl_str sl_list)) he hl hh) fun σ H Q ⟨E, M, Q', sl, rm, h, k⟩ => by
    refine ⟨E, M, _, sl, rm, h, fun v H1 d M1 t1 rm1 r1 q1 => ⟨E, M1, _, sl.mono t1, rm1, q1, fun l H2 M2 t2 rm2 q2 => ⟨E, M2, _, (sl.mono t1).mono t2, rm2, q2, fun u H3 M3 t3 rm3 q3 => ?_⟩⟩⟩
    have r3 := (r1.mono t2).mono t3
    have k3 := ((k.tx t1).tx t2).tx t3
    unfold oSl at q3
    split at q3
    · rename_i ds
      obtain ⟨a, xs, rfl, sq, ll⟩ := r3.inv_tup
      refine .inl ⟨a, xs, rfl, sq, fun e => ?_, fun _ => k3.newT rm3 (cut_rep ll l u) q3⟩
      refine k3.now rm3 (.tup sq ?_) q3
      have c := cut_rep ll l u
      have ce : cutV xs l u = xs := by
        unfold cutV
        rw [e.1, e.2, List.drop_zero, Nat.sub_zero, List.take_length]
      rw [ce] at c
      exact c
    · exact .inr (.inl ⟨_, r3.inv_str, q3.1, k3.now rm3 (.str _) q3.2⟩)
    · obtain ⟨ds, h1, h2⟩ := q3
      obtain ⟨xs, sq, ll⟩ := h1.sq rm3
      exact .inr (.inr ⟨_, xs, r3.inv_ref, sq, k3.newL rm3 (cut_rep ll l u) h2⟩)
    · exact q3.elim
end

/-! ### built-ins -/
section
variable {K : PySem.W.Frag} {w : World} {H : Hp}
theorem RepL.inv1 {d : D} {xs : List V} (r : RepL K w H [d] xs) : ∃ v, xs = [v] ∧ Rep K w H d v := by
  cases r with
  | cons a t => cases t; exact ⟨_, rfl, a⟩
theorem RepL.inv2 {d e : D} {xs : List V} (r : RepL K w H [d, e] xs) : ∃ v u, xs = [v, u] ∧ Rep K w H d v ∧ Rep K w H e u := by
  cases r with
  | cons a t =>
    obtain ⟨u, rfl, b⟩ := t.inv1
    exact ⟨_, u, rfl, a, b⟩
end
def oLen : DL := fun ds M Q => match ds with
  | [.str z] => z.length ≤ sizeLine ∧ Q (.int z.length) M
  | [.tup ds] => Q (.int ds.length) M
  | [.kd kvs] => Q (.int kvs.length) M
  | [.fl ds] => Q (.int ds.length) M
  | [.ref a] => (∃ ds, IsL M a ds ∧ Q (.int ds.length) M) ∨ ∃ kvs, M a = some (.dk kvs) ∧ Q (.int kvs.length) M
  | _ => False
def rLenK (K : PySem.W.Frag) (w : World) : List V → Hp → VK → Prop := fun xs H Q => ∃ d es n, KDict K w d es n ∧ xs = [.ref d] ∧ (es.size : Int) < 2 ^ 63 ∧ Q (.int es.size) H
theorem exact_of (es : Array DictEntry) (n : Nat) : ({ cls := .type "dict", dict := none, data := .dict es n, slots := #[] } : Obj).ExactDict := by
  first
    | exact ⟨rfl, rfl, rfl⟩
    | exact ⟨rfl, rfl⟩
    | constructor <;> rfl
theorem call_lenK {X : Cx} : CallR X (.builtin "len") (rLenK X.K X.w) := by
  intro pins s σ H xs us Q I r h
  obtain ⟨d, es, n, D, rfl, hz, q⟩ := h
  obtain ⟨u, rfl, ru⟩ := vals1 r
  have e : u = Value.ref d := ru
  subst e
  have hm : s.heap.DictRaw d es n := ⟨_, I.kIn _ _ D.at_, exact_of es n, rfl⟩
  refine Calls.call_function_entry PySem.kind_len PySem.plain_len PySem.entry_len (PySem.args_len1 _) ?_
  unfold Builtin.«len»
  refine wpAny_bind (m := oneArg "len" _) (wpAny_pure ?_)
  refine wpAny_bind (m := callSpecial? (.ref d) (Str.ofString "__len__")) (wpAny_callSpecial?_slot (name := Str.ofString "__len__") hm.typeIs PySem.F.slot_dict_len (PySem.call_len_raw D.low hm ?_))
  show wpAny _ _ _ _ _ { s with toks := s.toks + 1 }
  refine wpAny_bind (wpAny_holding (wpAny_pure ?_))
  refine wpAny_bind (wpAny_letGo ?_)
  show wpAny _ _ (if ((es.size : Nat) : Int) < 0 then _ else _) _ _ _
  rw [if_neg (by omega)]
  show wpAny _ _ (if ((es.size : Nat) : Int) ≥ 2 ^ 63 then _ else _) _ _ _
  rw [if_neg (by omega)]
  refine wpAny_bind (wpAny_mkInt (wpAny_pure ⟨_, rfl, ?_⟩))
  exact ⟨.int es.size, H, I.tok _, ⟨_, rfl⟩, q⟩
end DH

set_option Elab.async false
set_option linter.all false
set_option autoImplicit false
set_option maxRecDepth 100000
set_option maxHeartbeats 2000000
/-! Deep readings: built-ins called, methods, isinstance. -/
namespace DH
open PySem PySem.Spec PyProof.Rows L2
section
variable {K : PySem.W.Frag} {w : World} {H : Hp} {M : Mm}
theorem RepL.intsInv : ∀ {ns : List Int} {xs : List V}, RepL K w H (ns.map D.int) xs → xs = ns.map V.int
  | [], _, .nil => rfl
  | n :: ns, _, .cons r l => by rw [r.inv_int, RepL.intsInv l]; rfl
theorem IsL.ints {a : Addr} {ns : List Int} (h : IsL M a (ns.map D.int)) (rm : Rm K w H M) : SqL K H a (ns.map V.int) := by
  obtain ⟨xs, sq, l⟩ := h.sq rm
  rw [l.intsInv] at sq
  exact sq
end
theorem call_lenA {X : Cx} : CallR X (.builtin "len") (fun xs H Q => rLenK X.K X.w xs H Q ∨ (∃ x n, xs = [x] ∧ LenV X.K x H n ∧ Q (.int n) H) ∨ ∃ a kvs, xs = [V.ref a] ∧ H a = some (.dK kvs) ∧ Q (.int kvs.length) H) :=
  CallR.or call_lenK (CallR.or call_len call_lenD)
section
variable {K : PySem.W.Frag} {w : World}
theorem rl_len : RLR K w (fun xs H Q => rLenK K w xs H Q ∨ (∃ x n, xs = [x] ∧ LenV K x H n ∧ Q (.int n) H) ∨ ∃ a kvs, xs = [V.ref a] ∧ H a = some (.dK kvs) ∧ Q (.int kvs.length) H)
    oLen := fun ds M Q' xs H Q rm rl h k => by
  unfold oLen at h
  split at h
  · obtain ⟨v, rfl, r⟩ := rl.inv1
    rw [r.inv_str]
    exact .inr (.inl ⟨_, _, rfl, ⟨h.1, rfl⟩, k.now rm (.int _) h.2⟩)
  · obtain ⟨v, rfl, r⟩ := rl.inv1
    obtain ⟨a, xs, rfl, sq, l⟩ := r.inv_tup
    exact .inr (.inl ⟨_, xs.length, rfl, .inr ⟨xs, sq, rfl⟩, k.now rm (.int _) (by rw [l.length]; exact h)⟩)
  · rename_i kvs
    obtain ⟨v, rfl, r⟩ := rl.inv1
    obtain ⟨a, rfl, ka⟩ := r.inv_kd
    obtain ⟨es, n, kd, hz⟩ := ka.kd
    have := ka.small
    exact .inl ⟨a, es, n, kd, rfl, by omega, k.now rm (.int _) (by rw [hz]; exact h)⟩
  · obtain ⟨v, rfl, r⟩ := rl.inv1
    obtain ⟨a, xs, rfl, sq, l⟩ := r.inv_fl
    exact .inr (.inl ⟨_, xs.length, rfl, .inl ⟨xs, sq.sq, rfl⟩, k.now rm (.int _) (by rw [l.length]; exact h)⟩)
  · obtain ⟨v, rfl, r⟩ := rl.inv1
    rw [r.inv_ref]
    rcases h with ⟨ds, h1, h2⟩ | ⟨kvs, h1, h2⟩
    · obtain ⟨xs, sq, l⟩ := h1.sq rm
      exact .inr (.inl ⟨_, xs.length, rfl, .inl ⟨xs, sq, rfl⟩, k.now rm (.int _) (by rw [l.length]; exact h2)⟩)
    · obtain ⟨gs, e, r⟩ := rm _ _ h1
      exact .inr (.inr ⟨_, gs, rfl, e, k.now rm (.int _) (by rw [r.length]; exact h2)⟩)
  · exact h.elim
end
def oInt1 : DL := fun ds M Q => match ds with
  | [.int i] => Q (.int i) M
  | [.bl b] => Q (.int (if b then 1 else 0)) M
  | _ => False
def oAbs : DL := fun ds M Q => match ds with
  | [.int i] => Q (.int (if i < 0 then -i else i)) M
  | _ => False
def oMax2 : DL := fun ds M Q => match ds with
  | [.int i, .int j] => Q (.int (if j > i then j else i)) M
  | _ => False
def oMin2 : DL := fun ds M Q => match ds with
  | [.int i, .int j] => Q (.int (if j < i then j else i)) M
  | _ => False
def oMaxL : DL := fun ds M Q => ∃ (a : Addr) (ns : List Int), ds = [.ref a] ∧ IsL M a (ns.map D.int) ∧ 0 < ns.length ∧ ∀ m, m ∈ ns → (∀ y, y ∈ ns → y ≤ m) → Q (.int m) M
def oSumL : DL := fun ds M Q => ∃ (a : Addr) (ns : List Int), ds = [.ref a] ∧ IsL M a (ns.map D.int) ∧ Q (.int ns.sum) M
def oTuple : DL := fun ds M Q => match ds with
  | [.tup xs] => Q (.tup xs) M
  | [.ref a] => ∃ xs, IsL M a xs ∧ Q (.tup xs) M
  | _ => False
def oList : DL := fun ds M Q => match ds with
  | [.tup xs] => ∀ p, M p = none → Q (.ref p) (updM M p (.lst xs))
  | [.ref a] => ∃ xs, IsL M a xs ∧ ∀ p, M p = none → Q (.ref p) (updM M p (.lst xs))
  | _ => False
def oDict : DL := fun ds M Q => ∃ (a : Addr) (kvs : List (Key × D)), ds = [.ref a] ∧ M a = some (.dk kvs) ∧ ∀ p, M p = none → Q (.ref p) (updM M p (.dk kvs))
section
variable {K : PySem.W.Frag} {w : World}
theorem rl_int1 : RLR K w (fun xs H Q => (∃ i, xs = [.int i] ∧ Q (.int i) H) ∨ ∃ k, xs = [.bl k] ∧ Q (.int (if k then 1 else 0)) H) oInt1 := fun ds M Q' xs H Q rm rl h k => by
  unfold oInt1 at h
  split at h
  · obtain ⟨v, rfl, r⟩ := rl.inv1
    rw [r.inv_int]
    exact .inl ⟨_, rfl, k.now rm (.int _) h⟩
  · obtain ⟨v, rfl, r⟩ := rl.inv1
    rw [r.inv_bl]
    exact .inr ⟨_, rfl, k.now rm (.int _) h⟩
  · exact h.elim
theorem rl_abs : RLR K w (fun xs H Q => ∃ i, xs = [.int i] ∧ Q (.int (if i < 0 then -i else i)) H) oAbs := fun ds M Q' xs H Q rm rl h k => by
  unfold oAbs at h
  split at h
  · obtain ⟨v, rfl, r⟩ := rl.inv1
    rw [r.inv_int]
    exact ⟨_, rfl, k.now rm (.int _) h⟩
  · exact h.elim
theorem rl_max2 : RLR K w (fun xs H Q => ∃ i j, xs = [.int i, .int j] ∧ Q (.int (if j > i then j else i)) H) oMax2 := fun ds M Q' xs H Q rm rl h k => by
  unfold oMax2 at h
  split at h
  · obtain ⟨v, u, rfl, r, r2⟩ := rl.inv2
    rw [r.inv_int, r2.inv_int]
    exact ⟨_, _, rfl, k.now rm (.int _) h⟩
  · exact h.elim
theorem rl_min2 : RLR K w (fun xs H Q => ∃ i j, xs = [.int i, .int j] ∧ Q (.int (if j < i then j else i)) H) oMin2 := fun ds M Q' xs H Q rm rl h k => by
  unfold oMin2 at h
  split at h
  · obtain ⟨v, u, rfl, r, r2⟩ := rl.inv2
    rw [r.inv_int, r2.inv_int]
    exact ⟨_, _, rfl, k.now rm (.int _) h⟩
  · exact h.elim
theorem rl_maxL : RLR K w (rMax K) oMaxL := fun ds M Q' xs H Q rm rl h k => by
  obtain ⟨a, ns, rfl, h1, h2, h3⟩ := h
  obtain ⟨v, rfl, r⟩ := rl.inv1
  rw [r.inv_ref]
  exact ⟨a, ns, rfl, h1.ints rm, h2, fun m hm hy => k.now rm (.int _) (h3 m hm hy)⟩
theorem rl_sumL : RLR K w (rSum K) oSumL := fun ds M Q' xs H Q rm rl h k => by
  obtain ⟨a, ns, rfl, h1, h2⟩ := h
  obtain ⟨v, rfl, r⟩ := rl.inv1
  rw [r.inv_ref]
  exact ⟨a, ns, rfl, h1.ints rm, k.now rm (.int _) h2⟩
theorem rl_tuple : RLR K w (fun xs H Q => ∃ p ys, xs = [.ref p] ∧ ((SqL K H p ys ∧ ∀ l, H l = none → Q (.ref l) (upd H l (.tup ys))) ∨ (SqT K H p ys ∧ Q (.ref p) H))) oTuple := fun ds M Q' xs H Q rm rl h k => by
  unfold oTuple at h
  split at h
  · obtain ⟨v, rfl, r⟩ := rl.inv1
    obtain ⟨a, xs, rfl, sq, l⟩ := r.inv_tup
    exact ⟨a, xs, rfl, .inr ⟨sq, k.now rm (.tup sq l) h⟩⟩
  · obtain ⟨v, rfl, r⟩ := rl.inv1
    obtain ⟨ds, h1, h2⟩ := h
    obtain ⟨xs, sq, l⟩ := h1.sq rm
    rw [r.inv_ref]
    exact ⟨_, xs, rfl, .inl ⟨sq, k.newT rm l h2⟩⟩
  · exact h.elim
theorem rl_list : RLR K w (fun xs H Q => ∃ p ys, xs = [.ref p] ∧ (SqL K H p ys ∨ SqT K H p ys) ∧ ∀ l, H l = none → Q (.ref l) (upd H l (.lst ys))) oList := fun ds M Q' xs H Q rm rl h k => by
  unfold oList at h
  split at h
  · obtain ⟨v, rfl, r⟩ := rl.inv1
    obtain ⟨a, xs, rfl, sq, l⟩ := r.inv_tup
    exact ⟨a, xs, rfl, .inr sq, k.newL rm l h⟩
  · obtain ⟨v, rfl, r⟩ := rl.inv1
    obtain ⟨ds, h1, h2⟩ := h
    obtain ⟨xs, sq, l⟩ := h1.sq rm
    rw [r.inv_ref]
    exact ⟨_, xs, rfl, .inl sq, k.newL rm l h2⟩
  · exact h.elim
theorem rl_dict : RLR K w (fun xs H Q => ∃ (a : Addr) (kvs : List (Key × V)), xs = [.ref a] ∧ Rd H a (.dK kvs) ∧ ∀ p, H p = none → Q (.ref p) (upd H p (.dK kvs))) oDict := fun ds M Q' xs H Q rm rl h k => by
  obtain ⟨a, kvs, rfl, h1, h2⟩ := h
  obtain ⟨v, rfl, r⟩ := rl.inv1
  rw [r.inv_ref]
  obtain ⟨gs, e, rf⟩ := rm _ _ h1
  exact ⟨a, gs, rfl, .inl e, fun p hp => k _ _ _ _ (Tx.new hp) (rm.upd (mo := .dk kvs) (Tx.new hp) ⟨gs, upd_same, rf.mono (Tx.new hp)⟩) (.ref p) (h2 p (rm.free hp))⟩
end

/-! ### types -/
inductive Ty where
  | non | bl | int | str | tup | lst | dct
  deriving DecidableEq
def Ty.nm : Ty → String
  | .non => "NoneType" | .bl => "bool" | .int => "int" | .str => "str" | .tup => "tuple" | .lst => "list" | .dct => "dict"
def isTy : Ty → Ty → Bool
  | .bl, .int => true
  | .non, .non => true
  | .bl, .bl => true
  | .int, .int => true
  | .str, .str => true
  | .tup, .tup => true
  | .lst, .lst => true
  | .dct, .dct => true
  | _, _ => false
theorem kit_all (a b : Ty) : kitB a.nm b.nm = some (isTy a b) := by
  cases a <;> cases b <;> decide +kernel
def tyM (x : D) (M : Mm) (q : Ty → Prop) : Prop := match x with
  | .non => q .non
  | .bl _ => q .bl
  | .int _ => q .int
  | .str _ => q .str
  | .tup _ => q .tup
  | .kd _ => q .dct
  | .ref a => (∃ ds, IsL M a ds ∧ q .lst) ∨ ∃ kvs, M a = some (.dk kvs) ∧ q .dct
  | _ => False
theorem ty_rep {K : PySem.W.Frag} {w : World} {H : Hp} {M : Mm} {x : D} {v : V} {q : Ty → Prop} (h : tyM x M q) (rm : Rm K w H M) (r : Rep K w H x v) : ∃ t : Ty, q t ∧ TyX K H v (.type t.nm) := by
  unfold tyM at h
  split at h
  · rw [r.inv_non]; exact ⟨_, h, .base .non⟩
  · rw [r.inv_bl]; exact ⟨_, h, .base (.bl _)⟩
  · rw [r.inv_int]; exact ⟨_, h, .base (.int _)⟩
  · rw [r.inv_str]; exact ⟨_, h, .base (.str _)⟩
  · obtain ⟨a, xs, rfl, sq, l⟩ := r.inv_tup
    refine ⟨_, h, ?_⟩
    rcases sq with (e | ⟨o, e⟩) | ⟨o, its, n, e, c, _⟩
    · exact .base (.tup e)
    · exact .fTuple e
    · exact .kTuple e c
  · obtain ⟨a, rfl, ka⟩ := r.inv_kd
    obtain ⟨es, n, kd, _⟩ := ka.kd
    exact ⟨_, h, .kDict kd.at_ rfl⟩
  · rw [r.inv_ref]
    rcases h with ⟨ds, h1, h2⟩ | ⟨kvs, h1, h2⟩
    · refine ⟨_, h2, ?_⟩
      obtain ⟨xs, e, _⟩ := rm _ _ h1
      exact .base (.lst e)
    · obtain ⟨gs, e, _⟩ := rm _ _ h1
      exact ⟨_, h2, .base (.dK e)⟩
  · exact h.elim
/-- isinstance(e, T), isinstance(e, (T1, T2)) -/
def dIs (cs : List Ty) (de : DE) : DE := fun E M Q => de E M fun d M1 => tyM d M1 fun t => Q (.bl (cs.any (isTy t))) M1
section
variable {X : Cx} {e c1 c2 : Expr} {de : DE} {p pos p2 : Pos} {k2 : Nat → Nat}
theorem re_isi (c : Ty) (he : RE X e de) (hc : PE X c1 (tC (.ty c.nm))) (hg : Gl X "isinstance") (hm : X.mg "isinstance" = none)
    (h1 : starEach [e, c1] X.env = (false, eval e X.env) :: starEach [c1] X.env := by rfl) (h2 : starEach [c1] X.env = (false, eval c1 X.env) :: starEach [] X.env := by rfl) (hpl : (backTo pos (starEach [c1] X.env)).any (·.1) = false := by rfl) :
    RE X (.Call (.Name "isinstance" p) [e, c1] [] pos) (dIs [c] de) :=
  pe_imp (pe_callB call_isi hg hm boot_isinstance (pa_cons he (pa_cons hc pa_nil h2) h1) (by decide) (by decide) h1 hpl) fun σ H Q ⟨E, M, Q', sl, rm, h, k⟩ => by
    refine ⟨E, M, _, sl, rm, h, fun v H1 d M1 t1 rm1 r1 q1 => ?_⟩
    obtain ⟨t, q, ty⟩ := ty_rep q1 rm1 r1
    refine ⟨v, .ty c.nm, .type t.nm, .type c.nm, isTy t c, rfl, .ty _, ty, kit_ty (kit_all t c), ?_⟩
    have q2 : Q' (.bl (isTy t c || false)) M1 := q
    rw [Bool.or_false] at q2
    exact (k.tx t1).now rm1 (.bl _) q2
theorem re_isi2 (a b : Ty) {x1} (he : RE X e de) (hc : PE X c1 (tC (.ty a.nm))) (hd : PE X c2 (tC (.ty b.nm))) (hg : Gl X "isinstance") (hm : X.mg "isinstance" = none)
    (h1 : starEach [e, .Tuple [c1, c2] x1 p2] X.env = (false, eval e X.env) :: starEach [.Tuple [c1, c2] x1 p2] X.env := by rfl) (h2 : starEach [.Tuple [c1, c2] x1 p2] X.env = (false, eval (.Tuple [c1, c2] x1 p2) X.env) :: starEach [] X.env := by rfl)
    (h3 : starEach [c1, c2] X.env = (false, eval c1 X.env) :: starEach [c2] X.env := by rfl) (h4 : starEach [c2] X.env = (false, eval c2 X.env) :: starEach [] X.env := by rfl) (hpl : (backTo pos (starEach [.Tuple [c1, c2] x1 p2] X.env)).any (·.1) = false := by rfl) :
    RE X (.Call (.Name "isinstance" p) [e, .Tuple [c1, c2] x1 p2] [] pos) (dIs [a, b] de) :=
  pe_imp (pe_callB call_isiT hg hm boot_isinstance (pa_cons he (pa_cons (pe_tup (pa_cons hc (pa_cons hd pa_nil h4) h3)) pa_nil h2) h1) (by decide) (by decide) h1 hpl) fun σ H Q ⟨E, M, Q', sl, rm, h, k⟩ => by
    refine ⟨E, M, _, sl, rm, h, fun v H1 d M1 t1 rm1 r1 q1 => ⟨by show 2 ≤ sizeLine; decide, fun p hp => ?_⟩⟩
    obtain ⟨t, q, ty⟩ := ty_rep (M := M1) (K := X.K) (w := X.w) (H := upd H1 p (.tup [.ty a.nm, .ty b.nm])) (x := d) (q := fun t => Q' (.bl ([a, b].any (isTy t))) M1) q1 (rm1.keepNew hp) (r1.mono (Tx.new hp))
    refine ⟨v, p, [.ty a.nm, .ty b.nm], .type t.nm, [.type a.nm, .type b.nm], isTy t a || (isTy t b || false), rfl, upd_same, .cons (.ty _) (.cons (.ty _) .nil), ty, ?_, ?_⟩
    · refine kitAny_cons (kit_ty (kit_all t a)) (fun h => ?_) (fun h => by rw [h]; rfl)
      rw [h, Bool.false_or]
      refine kitAny_cons (kit_ty (kit_all t b)) (fun h => ?_) (fun h => by rw [h]; rfl)
      rw [h]
      exact kitAny_nil
    · exact k _ _ _ _ (t1.trans (Tx.new hp)) (rm1.keepNew hp) (.bl _) q
end

/-! ### methods -/
def dApp (do_ de : DE) : DE := fun E M Q => do_ E M fun o M1 => match o with
  | .ref a => (∃ ds, M1 a = some (.lst ds)) ∧ de E M1 fun d M2 => ∃ ds, M2 a = some (.lst ds) ∧ ds.length < sizeLine ∧ Q .non (updM M2 a (.lst (ds ++ [d])))
  | _ => False
def dGet2 (do_ di dx : DE) : DE := fun E M Q => do_ E M fun o M1 => match o with
  | .ref a => (∃ kvs, M1 a = some (.dk kvs)) ∧ di E M1 fun y M2 => dx E M2 fun z M3 => ∃ kvs k, M3 a = some (.dk kvs) ∧ isKeyD y = some k ∧ Q ((valD kvs k).getD z) M3
  | _ => False
section
variable {X : Cx} {o e f : Expr} {do_ de df : DE} {apos cpos : Pos}
theorem re_append (ho : RE X o do_) (he : RE X e de)
    (hbase : attributeBase o "append" X.env (eval o X.env) = eval o X.env := by rfl)
    (hfew : ((backTo cpos (starEach [e] X.env)).all (fun x => !x.1) && (backToKw cpos (keywordEach [] X.env)).all (fun x => x.1.isSome)
      && decide (([e] : List Expr).length + ([] : List Keyword).length + (if ([] : List Keyword).isEmpty then 0 else 1) < 30)) = true := by rfl)
    (hline : (apos.endLine == cpos.line) = true := by rfl) (hs : starEach [e] X.env = (false, eval e X.env) :: starEach [] X.env := by rfl) (hplain : (backTo cpos (starEach [] X.env)).any (·.1) = false := by rfl) :
    RE X (.Call (.Attribute o "append" apos) [e] [] cpos) (dApp do_ de) :=
  pe_imp (pe_bm PySem.F.plainAttrs_list PySem.F.slot_list_append PySem.F.type_list_append mt_append ho (pa_cons he pa_nil hs) hbase hfew hline hs hplain) fun σ H Q ⟨E, M, Q', sl, rm, h, k⟩ => by
    refine ⟨E, M, _, sl, rm, h, fun v H1 d M1 t1 rm1 r1 q1 => ?_⟩
    split at q1
    · obtain ⟨⟨ds, h1⟩, h2⟩ := q1
      obtain ⟨xs, e1, _⟩ := rm1 _ _ h1
      rw [r1.inv_ref]
      refine ⟨.inl ⟨rfl, xs, SqL.of e1⟩, E, M1, _, sl.mono t1, rm1, h2, fun u H2 d2 M2 t2 rm2 r2 q2 => ?_⟩
      obtain ⟨ds2, h3, h4, h5⟩ := q2
      obtain ⟨ys, e2, l2⟩ := rm2 _ _ h3
      refine ⟨_, ys, u, rfl, rfl, e2, by rw [l2.length]; exact h4, ?_⟩
      have tm : Tx X.K H2 (upd H2 _ (.lst (ys ++ [u]))) := Tx.mut e2 trivial
      exact k _ _ _ _ ((t1.trans t2).trans tm) (rm2.upd (mo := .lst (ds2 ++ [d2])) tm ⟨_, upd_same, (l2.append (.one r2)).mono tm⟩) .non h5
    · exact q1.elim
theorem re_get2 (hu : X.A.units + 1 < cLine) (ho : RE X o do_) (he : RE X e de) (hf : RE X f df) (m : M2 X o "get" apos e f cpos) : RE X (.Call (.Attribute o "get" apos) [e, f] [] cpos) (dGet2 do_ de df) :=
  pe_imp (pe_dget2 hu ho he hf m) fun σ H Q ⟨E, M, Q', sl, rm, h, k⟩ => by
    refine ⟨E, M, _, sl, rm, h, fun v H1 d M1 t1 rm1 r1 q1 => ?_⟩
    split at q1
    · obtain ⟨⟨kvs, h1⟩, h2⟩ := q1
      obtain ⟨gs, e1, _⟩ := rm1 _ _ h1
      rw [r1.inv_ref]
      refine ⟨_, rfl, .inl ⟨gs, .inl e1⟩, E, M1, _, sl.mono t1, rm1, h2, fun y H2 d2 M2 t2 rm2 r2 q2 => ⟨E, M2, _, (sl.mono t1).mono t2, rm2, q2, fun z H3 d3 M3 t3 rm3 r3 q3 => ?_⟩⟩
      obtain ⟨kvs2, kk, h3, h4, h5⟩ := q3
      obtain ⟨gs2, e2, rf⟩ := rm3 _ _ h3
      have ex := isKeyD_eq h4
      subst ex
      rw [keyD_rep r2]
      refine ⟨_, DGet.k e2, ?_⟩
      have k3 := ((k.tx t1).tx t2).tx t3
      cases ev : valD kvs2 kk with
      | none =>
        rw [ev] at h5
        rw [(rf.val kk).2 ev]
        exact k3.now rm3 r3 h5
      | some d =>
        rw [ev] at h5
        obtain ⟨x, g1, g2⟩ := (rf.val kk).1 d ev
        rw [g1]
        exact k3.now rm3 g2 h5
    · exact q1.elim
end
end DH

set_option Elab.async false
set_option linter.all false
set_option autoImplicit false
set_option maxRecDepth 100000
set_option maxHeartbeats 2000000
/-! Deep readings: tests, statements, targets, loops, comprehensions. -/
namespace DH
open PySem PySem.Spec PyProof.Rows L2
/-! ### tests -/
/-- a value's truth -/
def truM (x : D) (M : Mm) (q : Bool → Prop) : Prop := match x with
  | .bl b => q b
  | .non => q false
  | .int i => q (i != 0)
  | .str y => y.length ≤ sizeLine ∧ q ((y.length : Int) != 0)
  | .tup ds => q (!ds.isEmpty)
  | .ref a => (∃ ds, IsL M a ds ∧ q (!ds.isEmpty)) ∨ ∃ kvs, M a = some (.dk kvs) ∧ q (!kvs.isEmpty)
  | _ => False
def dtE (de : DE) : DT := fun E M Q => de E M fun d M1 => truM d M1 fun b => Q b M1
def dtB (de : DE) : DT := fun E M Q => de E M fun d M1 => match d with
  | .bl b => Q b M1
  | _ => False
def dtNot (t : DT) : DT := fun E M Q => t E M fun b M1 => Q (!b) M1
def dtAnd (t u : DT) : DT := fun E M Q => t E M fun b M1 => (b = true → u E M1 Q) ∧ (b = false → Q false M1)
def dtOr (t u : DT) : DT := fun E M Q => t E M fun b M1 => (b = true → Q true M1) ∧ (b = false → u E M1 Q)
def dNotV (de : DE) : DE := fun E M Q => de E M fun d M1 => match d with
  | .bl b => Q (.bl (!b)) M1
  | _ => False
def dAndV (da db : DE) : DE := fun E M Q => da E M fun d M1 => match d with
  | .bl b => (b = true → db E M1 Q) ∧ (b = false → Q (.bl false) M1)
  | _ => False
def dOrV (da db : DE) : DE := fun E M Q => da E M fun d M1 => match d with
  | .bl b => (b = true → Q (.bl true) M1) ∧ (b = false → db E M1 Q)
  | _ => False
def dIfE (t : DT) (da db : DE) : DE := fun E M Q => t E M fun b M1 => (b = true → da E M1 Q) ∧ (b = false → db E M1 Q)
def dChain (o o' : D2) (da db dc : DE) : DE := fun E M Q => da E M fun x M1 => db E M1 fun y M2 => o x y M2 fun z M3 => match z with
  | .bl b => (b = true → dc E M3 fun u M4 => o' y u M4 Q) ∧ (b = false → Q (.bl false) M3)
  | _ => False
section
variable {X : Cx} {a b c e : Expr} {da db dc de : DE} {t u : DT} {pos : Pos} {rest : List Expr}
theorem empty_len {α β : Type} {xs : List α} {ys : List β} (h : xs.length = ys.length) : xs.isEmpty = ys.isEmpty := by
  cases xs <;> cases ys <;> first | rfl | cases h
theorem tru_rep {K : PySem.W.Frag} {w : World} {H : Hp} {M : Mm} {x : D} {v : V} {q : Bool → Prop} (h : truM x M q) (rm : Rm K w H M) (r : Rep K w H x v) : ∃ k, TruV K v H k ∧ q k := by
  unfold truM at h
  split at h
  · rw [r.inv_bl]; exact ⟨_, rfl, h⟩
  · rw [r.inv_non]; exact ⟨_, rfl, h⟩
  · rw [r.inv_int]; exact ⟨_, rfl, h⟩
  · rw [r.inv_str]; exact ⟨_, ⟨h.1, rfl⟩, h.2⟩
  · obtain ⟨p, xs, rfl, sq, l⟩ := r.inv_tup
    exact ⟨_, .inr (.inl ⟨xs, sq, rfl⟩), by rw [empty_len l.length]; exact h⟩
  · rw [r.inv_ref]
    rcases h with ⟨ds, h1, h2⟩ | ⟨kvs, h1, h2⟩
    · obtain ⟨xs, sq, l⟩ := h1.sq rm
      exact ⟨_, .inl ⟨xs, sq, rfl⟩, by rw [empty_len l.length]; exact h2⟩
    · obtain ⟨gs, e, rf⟩ := rm _ _ h1
      exact ⟨_, .inr (.inr ⟨gs, e, rfl⟩), by rw [empty_len rf.length]; exact h2⟩
  · exact h.elim
theorem rt_val (h : RE X e de) (he : ∀ whole, isTrue e X.env whole = (do let v ← whole; standAt e.pos; holding [v] (truthy v)) := by intro _; rfl) : RT X e (dtE de) :=
  pt_imp (pt_truth h he) fun σ H Q ⟨E, M, Q', sl, rm, h, k⟩ => ⟨E, M, _, sl, rm, h, fun v H1 d M1 t1 rm1 r1 q1 => by
    obtain ⟨b, h1, h2⟩ := tru_rep q1 rm1 r1
    exact ⟨b, h1, k _ _ _ t1 rm1 h2⟩⟩
theorem rt_cmp {op : CmpOp} {r : R2} {o : D2} (ho : OpR X (compareOp op) r) (hr : R2R X.K X.w r o) (ha : RE X a da) (hb : RE X b db) (hm : behindInMarks op b = false) : RT X (.Compare a [op] [b] pos) (dtB (dOp o da db)) :=
  pt_imp (pt_cmpR ho ha hb hm) fun σ H Q ⟨E, M, Q', sl, rm, h, k⟩ => tD_op hr ⟨E, M, _, sl, rm, h, fun v H1 d M1 t1 rm1 r1 q1 => by
    split at q1
    · rename_i b; exact ⟨b, r1.inv_bl, k _ _ _ t1 rm1 q1⟩
    · exact q1.elim⟩
theorem tD_chain {K : PySem.W.Frag} {w : World} {r r' : R2} {o o' : D2} (hr : R2R K w r o) (hr' : R2R K w r' o') {σ : L2.St} {H : Hp} {Q : VK} (h : tD K w (dChain o o' da db dc) σ H Q) : tChain r r' (tD K w da) (tD K w db) (tD K w dc) σ H Q := by
  obtain ⟨E, M, Q', sl, rm, h, k⟩ := h
  refine ⟨E, M, _, sl, rm, h, fun v H1 d M1 t1 rm1 r1 q1 => ⟨E, M1, _, sl.mono t1, rm1, q1, fun v2 H2 d2 M2 t2 rm2 r2 q2 => ?_⟩⟩
  refine hr _ _ _ _ _ _ _ _ rm2 (r1.mono t2) r2 q2 fun v3 H3 d3 M3 t3 rm3 r3 q3 => ?_
  split at q3
  · rename_i b
    refine ⟨b, r3.inv_bl, ?_⟩
    have k3 := ((k.tx t1).tx t2).tx t3
    cases b with
    | true =>
      refine ⟨E, M3, _, ((sl.mono t1).mono t2).mono t3, rm3, q3.1 rfl, fun v4 H4 d4 M4 t4 rm4 r4 q4 => ?_⟩
      exact hr' _ _ _ _ _ _ _ _ rm4 ((r2.mono t3).mono t4) r4 q4 (k3.tx t4)
    | false => exact k3.now rm3 (.bl _) (q3.2 rfl)
  · exact q3.elim
theorem re_chain {op op' : CmpOp} {r r' : R2} {o o' : D2} (ho : OpR X (compareOp op) r) (hr : R2R X.K X.w r o) (ho' : OpR X (compareOp op') r') (hr' : R2R X.K X.w r' o') (ha : RE X a da) (hb : RE X b db) (hc : RE X c dc)
    (hm : lastMarks [op, op'] [b, c] = false := by with_unfolding_all rfl) : RE X (.Compare a [op, op'] [b, c] pos) (dChain o o' da db dc) := pe_imp (pe_chain ho ho' ha hb hc hm) fun σ H Q h => tD_chain hr hr' h
theorem rt_chain {op op' : CmpOp} {r r' : R2} {o o' : D2} (ho : OpR X (compareOp op) r) (hr : R2R X.K X.w r o) (ho' : OpR X (compareOp op') r') (hr' : R2R X.K X.w r' o') (ha : RE X a da) (hb : RE X b db) (hc : RE X c dc)
    (hm : lastMarks [op, op'] [b, c] = false := by with_unfolding_all rfl) : RT X (.Compare a [op, op'] [b, c] pos) (dtB (dChain o o' da db dc)) :=
  pt_imp (pt_chain ho ho' ha hb hc hm) fun σ H Q ⟨E, M, Q', sl, rm, h, k⟩ => tD_chain hr hr' ⟨E, M, _, sl, rm, h, fun v H1 d M1 t1 rm1 r1 q1 => by
    split at q1
    · rename_i b; exact ⟨b, r1.inv_bl, k _ _ _ t1 rm1 q1⟩
    · exact q1.elim⟩
theorem rt_not (h : RT X a t) : RT X (.UnaryOp .Not a pos) (dtNot t) := pt_imp (pt_not h) fun σ H Q ⟨E, M, Q', sl, rm, h, k⟩ => ⟨E, M, _, sl, rm, h, fun b H1 M1 t1 rm1 q1 => k _ _ _ t1 rm1 q1⟩
theorem rw_and1 (h : RT X a t) : RW X (.BoolOp .And [a] pos) t := pw_and1 h
theorem rw_or1 (h : RT X a t) : RW X (.BoolOp .Or [a] pos) t := pw_or1 h
theorem rw_and (ha : RT X a t) (hb : RW X (.BoolOp .And (b :: rest) pos) u) : RW X (.BoolOp .And (a :: b :: rest) pos) (dtAnd t u) := pw_imp (pw_and ha hb) fun σ H Q ⟨E, M, Q', sl, rm, h, k⟩ =>
  ⟨E, M, _, sl, rm, h, fun b H1 M1 t1 rm1 q1 => by
    cases b with
    | true => exact ⟨E, M1, _, sl.mono t1, rm1, q1.1 rfl, fun b H2 M2 t2 rm2 q2 => k _ _ _ (t1.trans t2) rm2 q2⟩
    | false => exact k _ _ _ t1 rm1 (q1.2 rfl)⟩
theorem rw_or (ha : RT X a t) (hb : RW X (.BoolOp .Or (b :: rest) pos) u) : RW X (.BoolOp .Or (a :: b :: rest) pos) (dtOr t u) := pw_imp (pw_or ha hb) fun σ H Q ⟨E, M, Q', sl, rm, h, k⟩ =>
  ⟨E, M, _, sl, rm, h, fun b H1 M1 t1 rm1 q1 => by
    cases b with
    | false => exact ⟨E, M1, _, sl.mono t1, rm1, q1.2 rfl, fun b H2 M2 t2 rm2 q2 => k _ _ _ (t1.trans t2) rm2 q2⟩
    | true => exact k _ _ _ t1 rm1 (q1.1 rfl)⟩
theorem re_one {op} (h : RE X a da) : RE X (.BoolOp op [a] pos) da := pe_one h
theorem re_not (h : RE X a da) : RE X (.UnaryOp .Not a pos) (dNotV da) := pe_imp (pe_not h) fun σ H Q ⟨E, M, Q', sl, rm, h, k⟩ => ⟨E, M, _, sl, rm, h, fun v H1 d M1 t1 rm1 r1 q1 => by
  split at q1
  · rename_i b; exact ⟨b, r1.inv_bl, (k.tx t1).now rm1 (.bl _) q1⟩
  · exact q1.elim⟩
theorem re_and (ha : RE X a da) (hb : RE X (.BoolOp .And (b :: rest) pos) db) : RE X (.BoolOp .And (a :: b :: rest) pos) (dAndV da db) := pe_imp (pe_and ha hb) fun σ H Q ⟨E, M, Q', sl, rm, h, k⟩ => ⟨E, M, _, sl, rm, h, fun v H1 d M1 t1 rm1 r1 q1 => by
  split at q1
  · rename_i b
    refine ⟨b, r1.inv_bl, ?_⟩
    cases b with
    | true => exact ⟨E, M1, _, sl.mono t1, rm1, q1.1 rfl, k.tx t1⟩
    | false => exact (k.tx t1).now rm1 (.bl _) (q1.2 rfl)
  · exact q1.elim⟩
theorem re_or (ha : RE X a da) (hb : RE X (.BoolOp .Or (b :: rest) pos) db) : RE X (.BoolOp .Or (a :: b :: rest) pos) (dOrV da db) := pe_imp (pe_or ha hb) fun σ H Q ⟨E, M, Q', sl, rm, h, k⟩ => ⟨E, M, _, sl, rm, h, fun v H1 d M1 t1 rm1 r1 q1 => by
  split at q1
  · rename_i b
    refine ⟨b, r1.inv_bl, ?_⟩
    cases b with
    | false => exact ⟨E, M1, _, sl.mono t1, rm1, q1.2 rfl, k.tx t1⟩
    | true => exact (k.tx t1).now rm1 (.bl _) (q1.1 rfl)
  · exact q1.elim⟩
theorem re_ifE (hc : RT X c t) (ha : RE X a da) (hb : RE X b db) : RE X (.IfExp c a b pos) (dIfE t da db) := pe_imp (pe_ifExp hc ha hb) fun σ H Q ⟨E, M, Q', sl, rm, h, k⟩ => ⟨E, M, _, sl, rm, h, fun v H1 M1 t1 rm1 q1 => by
  cases v with
  | true => exact ⟨E, M1, _, sl.mono t1, rm1, q1.1 rfl, k.tx t1⟩
  | false => exact ⟨E, M1, _, sl.mono t1, rm1, q1.2 rfl, k.tx t1⟩⟩
end

/-! ### statements -/
def dNext : DS := fun D E M => D.nx E M
def dSeq (t u : DS) : DS := fun D E M => t { D with nx := u D } E M
def dDrop (de : DE) : DS := fun D E M => de E M fun _ M1 => D.nx E M1
def dRet (de : DE) : DS := fun D E M => de E M D.rt
def dRetN : DS := fun D _ M => D.rt .non M
def dIf (t : DT) (a b : DS) : DS := fun D E M => t E M fun c M1 => (c = true → a D E M1) ∧ (c = false → b D E M1)
def dBrk : DS := fun D E M => D.bk E M
def dCont : DS := fun D E M => D.ct E M
section
variable {X : Cx} {st : Stmt} {rest : List Stmt} {t u : DS} {e : Expr} {de : DE} {pos : Pos}
theorem rss_nil : RSs X [] dNext := fun W tk => pss_imp pss_nil fun D σ H ⟨E, M, D', sl, rm, h, k⟩ => k.nx _ _ _ _ (Tx.refl H) sl rm h
theorem rss_cons (h1 : RS X st t) (h2 : RSs X rest u) : RSs X (st :: rest) (dSeq t u) := fun W tk => pss_imp (pss_cons (h1 W tk) (h2 W tk)) fun D σ H ⟨E, M, D', sl, rm, h, k⟩ =>
  ⟨E, M, _, sl, rm, h, ⟨fun σ' H' E' M' t sl' rm' q => ⟨E', M', D', sl', rm', q, k.tx t⟩, k.rt, k.bk, k.ct, k.xc⟩⟩
theorem rss_one (h1 : RS X st t) : RSs X [st] t := fun W tk => pss_one (h1 W tk)
theorem rs_pass : RS X (.Pass pos) dNext := fun W tk => ps_imp ps_pass fun D σ H ⟨E, M, D', sl, rm, h, k⟩ => k.nx _ _ _ _ (Tx.refl H) sl rm h
theorem rs_brk : RS X (.Break pos) dBrk := fun W tk => ps_imp ps_break fun D σ H ⟨E, M, D', sl, rm, h, k⟩ => k.bk _ _ _ _ (Tx.refl H) sl rm h
theorem rs_cont : RS X (.Continue pos) dCont := fun W tk => ps_imp ps_continue fun D σ H ⟨E, M, D', sl, rm, h, k⟩ => k.ct _ _ _ _ (Tx.refl H) sl rm h
theorem rs_expr (he : RE X e de) (hs : swapsWith e none pos.line X.env = pure false := by rfl) : RS X (.Expr e pos) (dDrop de) := fun W tk => ps_imp (ps_expr he hs) fun D σ H ⟨E, M, D', sl, rm, h, k⟩ =>
  ⟨E, M, _, sl, rm, h, fun v H1 d M1 t1 rm1 r1 q1 => k.nx _ _ _ _ t1 (sl.mono t1) rm1 q1⟩
theorem rs_ret (he : RE X e de) : RS X (.Return (some e) pos) (dRet de) := fun W tk => ps_imp (ps_ret he) fun D σ H ⟨E, M, D', sl, rm, h, k⟩ => ⟨E, M, _, sl, rm, h, k.rt⟩
theorem rs_retN : RS X (.Return none pos) dRetN := fun W tk => ps_imp ps_retN fun D σ H ⟨E, M, D', sl, rm, h, k⟩ => k.rt _ _ _ _ (Tx.refl H) rm .non h
theorem rs_if {c : Expr} {a b : List Stmt} {tc : DT} (hc : RT X c tc) (ha : RSs X a t) (hb : RSs X b u) : RS X (.If c a b pos) (dIf tc t u) := fun W tk => ps_imp (ps_if hc (ha W tk) (hb W tk)) fun D σ H ⟨E, M, D', sl, rm, h, k⟩ =>
  ⟨E, M, _, sl, rm, h, fun v H1 M1 t1 rm1 q1 => by
    cases v with
    | true => exact ⟨E, M1, D', sl.mono t1, rm1, q1.1 rfl, k.tx t1⟩
    | false => exact ⟨E, M1, D', sl.mono t1, rm1, q1.2 rfl, k.tx t1⟩⟩
end

/-! ### targets: a name, a row of names -/
inductive Tg where
  | nm (i : Nat) | tp (is : List Nat)
def setE (E : DEnv) : List Nat → List D → DEnv
  | i :: is, d :: ds => setE (E.set i (some d)) is ds
  | _, _ => E
def setσ (σ : L2.St) : List Nat → List V → L2.St
  | i :: is, d :: ds => setσ (σ.set i (some d)) is ds
  | _, _ => σ
def Tg.ls : Tg → List Nat
  | .nm i => [i]
  | .tp is => is
def dTg (g : Tg) (d : D) (E : DEnv) (Q : DEnv → Prop) : Prop := match g, d with
  | .nm i, d => Q (E.set i (some d))
  | .tp is, .tup ds => ds.length = is.length ∧ Q (setE E is ds)
  | _, _ => False
/-- a target's rule above the heap, and what it tells of the slots -/
structure PTg (X : Cx) (target : Expr) (g : Tg) (tg : TG) : Prop where
  pg : PG X target tg
  to : ∀ (d : D) (E : DEnv) (Q : DEnv → Prop) (v : V) (σ : L2.St) (H : Hp) (P : L2.St → Hp → Prop), dTg g d E Q → Sl X.K X.w H σ E → Rep X.K X.w H d v → (∀ E' xs, Sl X.K X.w H (setσ σ g.ls xs) E' → Q E' → P (setσ σ g.ls xs) H) → tg v σ H P
def gNames : List Nat → TGs
  | [] => gNil
  | i :: is => gCons (gName i) (gNames is)
theorem gNames_to {H : Hp} {P : L2.St → Hp → Prop} : ∀ {is : List Nat} {xs : List V} {σ : L2.St}, xs.length = is.length → P (setσ σ is xs) H → gNames is xs σ H P
  | [], [], _, _, h => ⟨rfl, h⟩
  | [], _ :: _, _, e, _ => by cases e
  | _ :: _, [], _, e, _ => by cases e
  | i :: is, x :: xs, σ, e, h => ⟨x, xs, rfl, gNames_to (is := is) (xs := xs) (σ := σ.set i (some x)) (by simpa using e) h⟩
theorem Sl.sets {K : PySem.W.Frag} {w : World} {H : Hp} : ∀ {is : List Nat} {ds : List D} {xs : List V} {σ : L2.St} {E : DEnv}, RepL K w H ds xs → Sl K w H σ E → Sl K w H (setσ σ is xs) (setE E is ds)
  | [], _, _, _, _, _, s => by
    cases ‹RepL K w H _ _› <;> exact s
  | i :: is, _, _, _, _, .nil, s => s
  | i :: is, _, _, _, _, .cons r l, s => Sl.sets (is := is) l (s.set r i)
section
variable {X : Cx} {pos : Pos}
theorem ptg_name {i : Nat} {x : Str} (h : PG X (.Name x pos) (gName i)) : PTg X (.Name x pos) (.nm i) (gName i) := ⟨h, fun d E Q v σ H P h sl r k => k _ [v] (sl.set r i) h⟩
theorem ptg_tup {es : List Expr} {kk : Nat} {is : List Nat} (hc : X.calm = true) (h : PGs X es (gNames is)) (hl : es.length = is.length)
    (hn : (assignEach es X.env).length = is.length := by rfl) (hst : (assignEach es X.env).findIdx? (·.1) = none := by rfl) : PTg X (.Tuple es kk pos) (.tp is) (gTup X.K is.length (gNames is)) :=
  ⟨pg_tup hc h hn hst, fun d E Q v σ H P h sl r k => by
    cases d with
    | tup ds =>
      have h : ds.length = is.length ∧ Q (setE E is ds) := h
      obtain ⟨a, xs, rfl, sq, l⟩ := r.inv_tup
      exact ⟨a, xs, rfl, sq, l.length.trans h.1, gNames_to (l.length.trans h.1) (k _ xs (Sl.sets l sl) h.2)⟩
    | _ => exact False.elim h⟩
end
def dAsg (de : DE) (g : Tg) : DS := fun D E M => de E M fun d M1 => dTg g d E fun E' => D.nx E' M1
section
variable {X : Cx} {pos : Pos} {e : Expr} {de : DE}
theorem asg_to {g : Tg} {target : Expr} {tg : TG} (p : PTg X target g tg) {W : WX} {D : Ends} {σ : L2.St} {H : Hp} (h : tsD X.K X.w W (dAsg de g) D σ H) : tAsg (tD X.K X.w de) tg D σ H := by
  obtain ⟨E, M, D', sl, rm, h, k⟩ := h
  exact ⟨E, M, _, sl, rm, h, fun v H1 d M1 t1 rm1 r1 q1 => p.to d E _ v σ H1 _ q1 (sl.mono t1) r1 fun E' xs sl' q => k.nx _ _ _ _ t1 sl' rm1 q⟩
theorem rs_set {i : Nat} {x : Str} {pos' : Pos} (hN : X.N.Nodup) (hi : X.N[i]? = some x) (hx : Loc X.env.scope x) (he : RE X e de) (hs : swapsWith e (some (.Name x pos')) pos.line X.env = pure false := by rfl) (hf : X.fn x = true ∨ X.env.scope.names.lookup x = some .local := by first | exact .inl rfl | exact .inr rfl | assumption) :
    RS X (.Assign [.Name x pos'] e pos) (dAsg de (.nm i)) := fun W tk => ps_imp (ps_set hN hi hx he hs hf) fun D σ H h => asg_to (ptg_name (pos := pos') (pg_name hN hi hx hf)) h
theorem rs_asg {target : Expr} {g : Tg} {tg : TG} (he : RE X e de) (p : PTg X target g tg) (hs : swapsWithSole [target] e pos.line X.env = pure false := by rfl) (hw : swappedStores [target] e X.env = pure none := by rfl)
    (h1 : (assignEach [target] X.env).map (·.2) = [assign target X.env] := by rfl) : RS X (.Assign [target] e pos) (dAsg de g) := fun W tk => ps_imp (ps_asg he p.pg hs hw h1) fun D σ H h => asg_to p h
end
/-- o[i] = v -/
def dSetIx (dv do_ di : DE) : DS := fun D E M => dv E M fun v M1 => do_ E M1 fun o M2 => di E M2 fun i M3 => match o with
  | .ref a => (∃ ds k j, M3 a = some (.lst ds) ∧ i = .int k ∧ ixN ds.length k = some j ∧ D.nx E (updM M3 a (.lst (ds.set j v)))) ∨ ∃ kvs k, M3 a = some (.dk kvs) ∧ isKeyD i = some k ∧ kvs.length < sizeLine ∧ D.nx E (updM M3 a (.dk (putD kvs k v)))
  | _ => False
theorem ps_or {X : Cx} {st : Stmt} {t t' : TS} (h : PS X st t) (h' : PS X st t') : PS X st (fun D σ H => t D σ H ∨ t' D σ H) := ⟨fun pins s σ H D I q => q.elim (h.run pins s σ H D I) (h'.run pins s σ H D I)⟩
theorem ps_push3 {X : Cx} {st : Stmt} {t : TS} (h : PS X st t) : PS X st t := h
section
variable {X : Cx} {o i v : Expr} {do_ di dv : DE} {pos pos' : Pos}
/-- the store by values: a list or a dict -/
def rSetA : TSet := fun o i v H Q => rSetL o i v H Q ∨ ∃ a H', o = .ref a ∧ DPut H a i v H' ∧ Q H'
theorem set_all (hu : X.A.units + 1 < cLine) : PSet X rSetA := fun pins s σ H o i v ov iv u Q I ro ri rv h => by
  rcases h with h | ⟨a, H', rfl, h, q⟩
  · exact set_list pins s σ H o i v ov iv u Q I ro ri rv h
  · cases (show ov = Value.ref a from ro)
    exact d_setItem hu I h ri rv fun s' I' => ⟨H', I', q⟩
theorem rs_setIx (hu : X.A.units + 1 < cLine) (ho : RE X o do_) (hi : RE X i di) (hv : RE X v dv)
    (ha : ∀ u, assign (.Subscript o i pos') X.env u = (do
      let ov ← holding [u] (eval o X.env)
      let iv ← holding [u, ov] (eval i X.env)
      standAt pos'
      holding [u, ov, iv] (setItem ov iv u)
      release [u, ov, iv] []) := by intro _; rfl)
    (hs : swapsWithSole [.Subscript o i pos'] v pos.line X.env = pure false := by rfl) (hw : swappedStores [.Subscript o i pos'] v X.env = pure none := by rfl)
    (h1 : (assignEach [.Subscript o i pos'] X.env).map (·.2) = [assign (.Subscript o i pos') X.env] := by rfl) : RS X (.Assign [.Subscript o i pos'] v pos) (dSetIx dv do_ di) :=
  fun W tk => ps_imp (ps_asg hv (pg_sub ho hi (set_all hu) ha) hs hw h1) fun D σ H ⟨E, M, D', sl, rm, h, k⟩ => by
    refine ⟨E, M, _, sl, rm, h, fun x H1 d M1 t1 rm1 r1 q1 => ⟨E, M1, _, sl.mono t1, rm1, q1, fun y H2 d2 M2 t2 rm2 r2 q2 => ⟨E, M2, _, (sl.mono t1).mono t2, rm2, q2, fun z H3 d3 M3 t3 rm3 r3 q3 => ?_⟩⟩⟩
    split at q3
    · rename_i a
      have t123 := t1.trans (t2.trans t3)
      rw [(r2.mono t3).inv_ref]
      rcases q3 with ⟨ds, kk, j, h1, h2, h3, h4⟩ | ⟨kvs, kk, h1, h2, h3, h4⟩
      · obtain ⟨xs, e, l⟩ := rm3 _ _ h1
        subst h2
        have tm : Tx X.K H3 (upd H3 a (.lst (xs.set j x))) := Tx.mut e trivial
        refine .inl ⟨a, xs, kk, j, rfl, r3.inv_int, e, by rw [l.length]; exact h3, ?_⟩
        exact k.nx _ _ _ _ (t123.trans tm) (((((sl.mono t1).mono t2).mono t3)).mono tm) (rm3.upd (mo := .lst (ds.set j d)) tm ⟨_, upd_same, (RepL.set ((r1.mono t2).mono t3) j l).mono tm⟩) h4
      · obtain ⟨gs, e, rf⟩ := rm3 _ _ h1
        have ex := isKeyD_eq h2
        subst ex
        rw [keyD_rep r3]
        have tm : Tx X.K H3 (upd H3 a (.dK (putK gs kk x))) := Tx.mut e trivial
        refine .inr ⟨a, _, rfl, DPut.k e (by rw [rf.length]; exact h3), ?_⟩
        exact k.nx _ _ _ _ (t123.trans tm) (((((sl.mono t1).mono t2).mono t3)).mono tm) (rm3.upd (mo := .dk (putD kvs kk d)) tm ⟨_, upd_same, (rf.put kk ((r1.mono t2).mono t3)).mono tm⟩) h4
    · exact q3.elim
end
/-- x += e, ints -/
def dAugAdd (i : Nat) (de : DE) : DS := fun D E M => dVar i E M fun x _ => de E M fun y M1 => match x, y with
  | .int a, .int b => D.nx (E.set i (some (.int (a + b)))) M1
  | _, _ => False
theorem rs_augAdd {X : Cx} {i : Nat} {x : Str} {e : Expr} {de : DE} {pos pos' : Pos} (hN : X.N.Nodup) (hi : X.N[i]? = some x) (hx : Loc X.env.scope x) (he : RE X e de) (hf : X.fn x = true ∨ X.env.scope.names.lookup x = some .local := by first | exact .inl rfl | exact .inr rfl | assumption) :
    RS X (.AugAssign (.Name x pos') .Add e pos) (dAugAdd i de) := fun W tk => ps_imp (ps_aug hN hi hx he ip_add hf) fun D σ H ⟨E, M, D', sl, rm, h, k⟩ => by
  unfold dAugAdd dVar at h
  split at h
  · rename_i d q
    obtain ⟨v, e1, r⟩ := sl.at_ i d q
    refine ⟨v, e1, E, M, _, sl, rm, h, fun y H1 d1 M1 t1 rm1 r1 q1 => ?_⟩
    split at q1
    · exact ⟨_, _, r.inv_int, r1.inv_int, k.nx _ _ _ _ t1 ((sl.mono t1).set (.int _) i) rm1 q1⟩
    · exact q1.elim
  · exact h.elim
end DH

set_option Elab.async false
set_option linter.all false
set_option autoImplicit false
set_option maxRecDepth 100000
set_option maxHeartbeats 2000000
/-! Deep readings: what is walked, for, comprehensions, dict displays. -/
namespace DH
open PySem PySem.Spec PyProof.Rows L2
abbrev DI := DEnv → Mm → (List D → (Mm → Prop) → Mm → Prop) → Prop
/-- an iterator above the heap H0 that yields ds while stay -/
def ItOk (K : PySem.W.Frag) (w : World) (H0 : Hp) (J : It) (ds : List D) (stay : Mm → Prop) : Prop := ∀ (i : Nat) (H : Hp) (M : Mm), Tx K H0 H → Rm K w H M → stay M →
  (∀ d, ds[i]? = some d → J.go i H ∧ ∀ x H', J.yld i H x H' → Tx K H H' ∧ Rm K w H' M ∧ Rep K w H' d x) ∧ (i = ds.length → J.stop i H)
def tiD (K : PySem.W.Frag) (w : World) (di : DI) : TI := fun σ H R => ∃ E M Q', Sl K w H σ E ∧ Rm K w H M ∧ di E M Q' ∧ ∀ J H' ds stay M', Tx K H H' → Rm K w H' M' → ItOk K w H' J ds stay → Q' ds stay M' → R J H'
abbrev RI (X : Cx) (tg iter : Expr) (di : DI) : Prop := PI X tg iter (tiD X.K X.w di)
section
variable {K : PySem.W.Frag} {w : World} {H : Hp}
theorem it_list {a : Addr} {ds : List D} : ItOk K w H (Itl K a) ds (fun M => IsL M a ds) := fun i H' M t rm st => by
  obtain ⟨xs, sq, l⟩ := st.sq rm
  refine ⟨fun d e => ?_, fun e => ⟨xs, sq, by rw [l.length, e]; exact Nat.le_refl _⟩⟩
  obtain ⟨x, e1, r⟩ := l.get e
  refine ⟨⟨xs, x, sq, e1⟩, fun y H2 h => ?_⟩
  obtain ⟨rfl, h⟩ := h
  have q := h xs sq
  rw [e1] at q; cases q
  exact ⟨Tx.refl _, rm, r⟩
theorem it_tup {a : Addr} {ds : List D} {xs : List V} (sq : SqT K H a xs) (l : RepL K w H ds xs) : ItOk K w H (Itt K a) ds (fun _ => True) := fun i H' M t rm st => by
  refine ⟨fun d e => ?_, fun e => ⟨xs, t.t _ _ sq, by rw [l.length, e]; exact Nat.le_refl _⟩⟩
  obtain ⟨x, e1, r⟩ := l.get e
  refine ⟨⟨xs, x, t.t _ _ sq, e1⟩, fun y H2 h => ?_⟩
  obtain ⟨rfl, h⟩ := h
  have q := h xs (t.t _ _ sq)
  rw [e1] at q; cases q
  exact ⟨Tx.refl _, rm, r.mono t⟩
def strD (z : Str) : List D := z.cps.toList.map fun c => .str ⟨#[c]⟩
theorem it_str {z : Str} : ItOk K w H (Its z) (strD z) (fun _ => True) := fun i H' M t rm st => by
  unfold strD
  refine ⟨fun d e => ?_, fun e => ?_⟩
  · rw [List.getElem?_map] at e
    obtain ⟨c, e1, e2⟩ := Option.map_eq_some_iff.mp e
    subst e2
    have hi := (List.getElem?_eq_some_iff.mp e1).1
    refine ⟨(by simpa using hi : i < z.cps.size), fun y H2 h => ?_⟩
    obtain ⟨rfl, c', e3, rfl⟩ := h
    have e4 : z.cps.toList[i]? = some c' := by simpa using e3
    rw [e1] at e4; cases e4
    exact ⟨Tx.refl _, rm, .str _⟩
  · show z.cps.size ≤ i
    rw [e, List.length_map]; simp
def rngD (lo : Int) (n : Nat) : List D := (List.range n).map fun i => .int (lo + (i : Nat))
theorem it_rng {lo : Int} {n : Nat} : ItOk K w H (Itr lo n) (rngD lo n) (fun _ => True) := fun i H' M t rm st => by
  unfold rngD
  refine ⟨fun d e => ?_, fun e => ?_⟩
  · rw [List.getElem?_map] at e
    obtain ⟨c, e1, e2⟩ := Option.map_eq_some_iff.mp e
    subst e2
    have hi := (List.getElem?_eq_some_iff.mp e1).1
    rw [List.length_range] at hi
    rw [List.getElem?_range hi] at e1; cases e1
    refine ⟨hi, fun y H2 h => ?_⟩
    obtain ⟨rfl, rfl⟩ := h
    exact ⟨Tx.refl _, rm, .int _⟩
  · show n ≤ i
    rw [e, List.length_map, List.length_range]; exact Nat.le_refl _
end
/-- the walk over a value -/
def dIter (de : DE) : DI := fun E M Q => de E M fun d M1 => match d with
  | .tup ds => Q ds (fun _ => True) M1
  | .str z => Q (strD z) (fun _ => True) M1
  | .ref a => ∃ ds, IsL M1 a ds ∧ Q ds (fun M => IsL M a ds) M1
  | _ => False
def dRng1 (da : DA) : DI := fun E M Q => da E M fun ds M1 => match ds with
  | [.int j] => -(2 ^ 62) ≤ j ∧ j < 2 ^ 62 ∧ Q (rngD 0 j.toNat) (fun _ => True) M1
  | _ => False
def dRng2 (da : DA) : DI := fun E M Q => da E M fun ds M1 => match ds with
  | [.int i, .int j] => (-(2 ^ 62) ≤ i ∧ i < 2 ^ 62 ∧ -(2 ^ 62) ≤ j ∧ j < 2 ^ 62) ∧ Q (rngD i (j - i).toNat) (fun _ => True) M1
  | _ => False
section
variable {X : Cx} {tg e : Expr} {de : DE} {p pos : Pos}
/-- what a value is walked by -/
def itV (K : PySem.W.Frag) (v : V) (H : Hp) (R : It → Hp → Prop) : Prop :=
  (∃ a xs, v = .ref a ∧ SqT K H a xs ∧ R (Itt K a) H) ∨ (∃ x, v = .str x ∧ R (Its x) H) ∨ ∃ a xs, v = .ref a ∧ SqL K H a xs ∧ R (Itl K a) H
def iVal (K : PySem.W.Frag) (te : TE) : TI := fun σ H R => te σ H fun v H1 => itV K v H1 R
theorem pi_val {te : TE} (he : PE X e te) : PI X tg e (iVal X.K te) := by
  refine ⟨fun pins s σ H R I h => ?_⟩
  refine thn (he.run pins s σ H _ I h) fun v s1 ⟨y, H1, I1, r1, q⟩ => ?_
  rcases q with ⟨a, xs, rfl, sq, q⟩ | ⟨x, rfl, q⟩ | ⟨a, xs, rfl, sq, q⟩
  · cases r1
    obtain ⟨its, rv, pt, hz⟩ := I1.tuple sq
    exact wpAny_pyIter_tuple (show s1.heap.IsTuple a its.toArray from pt) (pi_one (tk := s1.toks) I1 _ (turn_tuple a _) ⟨_, Heap.get?_push_size _ rfl, rfl, rfl⟩ q)
  · obtain ⟨t, rfl⟩ := r1
    cases ha : x.cps.all (· < 128) with
    | false => exact wpAny_pyIter_wide ha (pi_one (tk := s1.toks) I1 _ (turn_str _ x t "str_iterator" (.inr rfl)) ⟨_, Heap.get?_push_size _ rfl, rfl, rfl⟩ q)
    | true => exact wpAny_pyIter_ascii ha (pi_one (tk := s1.toks) I1 _ (turn_str _ x t "str_ascii_iterator" (.inl rfl)) ⟨_, Heap.get?_push_size _ rfl, rfl, rfl⟩ q)
  · cases r1
    obtain ⟨its, rv, pt, hz⟩ := I1.list sq
    exact wpAny_pyIter_list pt.isList (pi_one (tk := s1.toks) I1 _ (turn_list a _) ⟨_, Heap.get?_push_size _ rfl, rfl, rfl⟩ q)
theorem ri_val (he : RE X e de) : RI X tg e (dIter de) := pi_imp (pi_val he) fun σ H R ⟨E, M, Q', sl, rm, h, k⟩ =>
  ⟨E, M, _, sl, rm, h, fun v H' d M' t rm' r q => by
    split at q
    · obtain ⟨a, xs, rfl, sq, l⟩ := r.inv_tup
      exact .inl ⟨a, xs, rfl, sq, k _ _ _ _ _ t rm' (it_tup sq l) q⟩
    · exact .inr (.inl ⟨_, r.inv_str, k _ _ _ _ _ t rm' it_str q⟩)
    · obtain ⟨ds, h1, h2⟩ := q
      obtain ⟨xs, sq, l⟩ := h1.sq rm'
      exact .inr (.inr ⟨_, xs, r.inv_ref, sq, k _ _ _ _ _ t rm' it_list h2⟩)
    · exact q.elim⟩
theorem ri_rng1 {a : Expr} {da : DA} (hg : Gl X "range") (hm : X.mg "range" = none) (ha : RA X [a] da) (hs : starEach [a] X.env = [(false, eval a X.env)] := by rfl) : RI X tg (.Call (.Name "range" p) [a] [] pos) (dRng1 da) :=
  pi_imp (pi_range1 hg hm ha hs) fun σ H R ⟨E, M, Q', sl, rm, h, k⟩ => ⟨E, M, _, sl, rm, h, fun vs H' ds M' t rm' r q => by
    split at q
    · obtain ⟨v, rfl, rr⟩ := r.inv1
      rw [rr.inv_int]
      exact ⟨_, rfl, q.1, q.2.1, k _ _ _ _ _ t rm' it_rng q.2.2⟩
    · exact q.elim⟩
theorem ri_rng2 {a b : Expr} {da : DA} (hg : Gl X "range") (hm : X.mg "range" = none) (ha : RA X [a, b] da) (hs : starEach [a, b] X.env = [(false, eval a X.env), (false, eval b X.env)] := by rfl) (hs2 : starEach [b] X.env = [(false, eval b X.env)] := by rfl) : RI X tg (.Call (.Name "range" p) [a, b] [] pos) (dRng2 da) :=
  pi_imp (pi_range2 hg hm ha hs hs2) fun σ H R ⟨E, M, Q', sl, rm, h, k⟩ => ⟨E, M, _, sl, rm, h, fun vs H' ds M' t rm' r q => by
    split at q
    · obtain ⟨v, u, rfl, rr, r2⟩ := r.inv2
      rw [rr.inv_int, r2.inv_int]
      exact ⟨_, _, rfl, q.1, k _ _ _ _ _ t rm' it_rng q.2⟩
    · exact q.elim⟩
end

/-! ### for -/
def dFor (di : DI) (g : Tg) (db : DS) : DS := fun D E M => di E M fun ds stay M1 => ∃ I : Nat → DEnv → Mm → Prop, I 0 E M1 ∧ (∀ i E M, I i E M → stay M) ∧
  (∀ i E M d, ds[i]? = some d → I i E M → dTg g d E fun E2 => db { nx := I (i + 1), rt := D.rt, bk := D.nx, ct := I (i + 1), xc := D.xc } E2 M) ∧ ∀ E M, I ds.length E M → D.nx E M
theorem rs_for {X : Cx} {target iter : Expr} {body : List Stmt} {di : DI} {g : Tg} {tg : TG} {db : DS} {pos : Pos} (hp : PassesOwn (model X.prog X.w) X.A X.env X.xe) (hc : X.calm = true) (hi : RI X target iter di) (hg : PTg X target g tg) (hb : RSs X body db)
    (hs : ∀ x, foldedSetIterable iter X.env x = pure x := by intro _; rfl) : RS X (.For target iter body [] pos) (dFor di g db) :=
  fun W tk => ps_imp (ps_for hp hc hi hg.pg (hb W tk) hs) fun D σ H ⟨E, M, D', sl, rm, h, k⟩ => by
    refine ⟨E, M, _, sl, rm, h, fun J H1 ds stay M1 t1 rm1 ok q => ?_⟩
    obtain ⟨I, i0, ist, turn, fin⟩ := q
    refine ⟨fun i m σ' H' => ∃ E' M', m = ds.length - i ∧ i ≤ ds.length ∧ Tx X.K H1 H' ∧ Sl X.K X.w H' σ' E' ∧ Rm X.K X.w H' M' ∧ I i E' M', ⟨_, E, M1, rfl, Nat.zero_le _, Tx.refl _, sl.mono t1, rm1, i0⟩, ?_⟩
    rintro i m σ' H' ⟨E', M', rfl, hi, t', sl', rm', iv⟩
    have it := ok i H' M' t' rm' (ist i E' M' iv)
    by_cases hlt : i < ds.length
    · obtain ⟨go, yl⟩ := it.1 ds[i] (List.getElem?_eq_getElem hlt)
      refine .inr ⟨go, fun σ2 H2 => ∃ E2 M2, Tx X.K H1 H2 ∧ Sl X.K X.w H2 σ2 E2 ∧ Rm X.K X.w H2 M2 ∧ I (i + 1) E2 M2, fun σ2 H2 ⟨E2, M2, a, b, c, d⟩ => ⟨ds.length - (i + 1), by omega, E2, M2, rfl, hlt, a, b, c, d⟩, fun x H2 y => ?_⟩
      obtain ⟨t2, rm2, r2⟩ := yl x H2 y
      refine hg.to ds[i] E' _ x σ' H2 _ (turn i E' M' _ (List.getElem?_eq_getElem hlt) iv) (sl'.mono t2) r2 fun E3 xs sl3 q3 => ?_
      have tt : Tx X.K H1 H2 := t'.trans t2
      exact ⟨E3, M', _, sl3, rm2, q3, ⟨fun σ4 H4 E4 M4 t4 sl4 rm4 q4 => ⟨E4, M4, tt.trans t4, sl4, rm4, q4⟩, fun v H4 d M4 t4 rm4 r4 q4 => k.rt _ _ _ _ (t1.trans (tt.trans t4)) rm4 r4 q4, fun σ4 H4 E4 M4 t4 sl4 rm4 q4 => k.nx _ _ _ _ (t1.trans (tt.trans t4)) sl4 rm4 q4, fun σ4 H4 E4 M4 t4 sl4 rm4 q4 => ⟨E4, M4, tt.trans t4, sl4, rm4, q4⟩, fun cls d σ4 H4 E4 M4 t4 sl4 rm4 q4 => k.xc _ _ _ _ _ _ (t1.trans (tt.trans t4)) sl4 rm4 q4⟩⟩
    · have e : i = ds.length := by omega
      exact .inl ⟨it.2 e, k.nx _ _ _ _ (t1.trans t') sl' rm' (fin E' M' (by rw [← e]; exact iv))⟩

/-! ### while -/
def dWhile (t : DT) (db : DS) : DS := fun D E M => ∃ W : Nat → DEnv → Mm → Prop, (∃ m, W m E M) ∧ ∀ m E M, W m E M → t E M fun b M1 => (b = true → db { nx := fun E' M' => ∃ m', m' < m ∧ W m' E' M', rt := D.rt, bk := D.nx, ct := fun E' M' => ∃ m', m' < m ∧ W m' E' M', xc := D.xc } E M1) ∧ (b = false → D.nx E M1)
theorem rs_while {X : Cx} {c : Expr} {body : List Stmt} {t : DT} {db : DS} {pos : Pos} (hp : PassesOwn (model X.prog X.w) X.A X.env X.xe) (hc : RT X c t) (hb : RSs X body db) : RS X (.While c body [] pos) (dWhile t db) :=
  fun W tk => ps_imp (ps_while hp hc (hb W tk)) fun D σ H ⟨E, M, D', sl, rm, h, k⟩ => by
    obtain ⟨V, ⟨m0, w0⟩, turn⟩ := h
    refine ⟨fun m σ' H' => ∃ E' M', Tx X.K H H' ∧ Sl X.K X.w H' σ' E' ∧ Rm X.K X.w H' M' ∧ V m E' M', ⟨m0, E, M, Tx.refl _, sl, rm, w0⟩, ?_⟩
    rintro m σ' H' ⟨E', M', t', sl', rm', w⟩
    refine ⟨E', M', _, sl', rm', turn m E' M' w, fun b H1 M1 t1 rm1 q => ?_⟩
    cases b with
    | true =>
      refine ⟨fun σ2 H2 => ∃ m', m' < m ∧ ∃ E2 M2, Tx X.K H H2 ∧ Sl X.K X.w H2 σ2 E2 ∧ Rm X.K X.w H2 M2 ∧ V m' E2 M2, fun σ2 H2 ⟨m', l, r⟩ => ⟨m', l, r⟩, E', M1, _, sl'.mono t1, rm1, q.1 rfl, ?_⟩
      have tt := t'.trans t1
      exact ⟨fun σ4 H4 E4 M4 t4 sl4 rm4 ⟨m', l, q4⟩ => ⟨m', l, E4, M4, tt.trans t4, sl4, rm4, q4⟩, fun v H4 d M4 t4 rm4 r4 q4 => k.rt _ _ _ _ (tt.trans t4) rm4 r4 q4, fun σ4 H4 E4 M4 t4 sl4 rm4 q4 => k.nx _ _ _ _ (tt.trans t4) sl4 rm4 q4, fun σ4 H4 E4 M4 t4 sl4 rm4 ⟨m', l, q4⟩ => ⟨m', l, E4, M4, tt.trans t4, sl4, rm4, q4⟩, fun cls d σ4 H4 E4 M4 t4 sl4 rm4 q4 => k.xc _ _ _ _ _ _ (tt.trans t4) sl4 rm4 q4⟩
    | false => exact k.nx _ _ _ _ (t'.trans t1) (sl'.mono t1) rm1 (q.2 rfl)

/-! ### comprehensions -/
theorem wipe_put {i : Nat} {o : Option V} : ∀ {vs : List Nat} {σ : L2.St}, i ∉ vs → wipe (σ.set i o) vs = (wipe σ vs).set i o
  | [], _, _ => rfl
  | v :: vs, σ, h => by
    have h1 : i ≠ v := fun e => h (List.mem_cons.mpr (.inl e))
    have h2 : i ∉ vs := fun e => h (List.mem_cons.mpr (.inr e))
    show (wipe (σ.set i o) vs).set v none = ((wipe σ vs).set v none).set i o
    rw [wipe_put h2, List.set_comm _ _ h1]
theorem wipe_set {i : Nat} {o : Option V} : ∀ {vs : List Nat} {σ : L2.St}, i ∈ vs → wipe (σ.set i o) vs = wipe σ vs
  | [], _, h => by cases h
  | v :: vs, σ, h => by
    show (wipe (σ.set i o) vs).set v none = (wipe σ vs).set v none
    by_cases e : i ∈ vs
    · rw [wipe_set e]
    · have hv : v = i := by
        rcases List.mem_cons.mp h with q | q
        · exact q.symm
        · exact absurd q e
      subst hv
      rw [wipe_put e, List.set_set]
theorem wipe_idem {vs : List Nat} {σ : L2.St} : ∀ {ws : List Nat}, (∀ i ∈ ws, i ∈ vs) → wipe (wipe σ ws) vs = wipe σ vs
  | [], _ => rfl
  | v :: ws, h => by
    show wipe ((wipe σ ws).set v none) vs = wipe σ vs
    rw [wipe_set (h v List.mem_cons_self), wipe_idem fun i hi => h i (List.mem_cons_of_mem _ hi)]
theorem wipe_sets {vs : List Nat} : ∀ {is : List Nat} {xs : List V} {σ : L2.St}, (∀ i ∈ is, i ∈ vs) → wipe (setσ σ is xs) vs = wipe σ vs
  | [], _, _, _ => rfl
  | _ :: _, [], _, _ => rfl
  | i :: is, x :: xs, σ, h => by
    show wipe (setσ (σ.set i (some x)) is xs) vs = wipe σ vs
    rw [wipe_sets fun j hj => h j (List.mem_cons_of_mem _ hj), wipe_set (h i List.mem_cons_self)]
def dYes : DT := fun _ M Q => Q true M
def dLc (di : DI) (g : Tg) (t : DT) (de : DE) (vs : List Nat) : DE := fun E M Q => di E M fun ds stay M1 => ∀ p, M1 p = none → ∃ I : Nat → List D → Mm → Prop, I 0 [] (updM M1 p (.lst [])) ∧ (∀ i acc M, I i acc M → stay M) ∧
  (∀ i acc M d, ds[i]? = some d → I i acc M → dTg g d (wipeD E vs) fun E2 => t E2 M fun b M3 => (b = true → de E2 M3 fun y M4 => M4 p = some (.lst acc) ∧ acc.length < sizeLine ∧ I (i + 1) (acc ++ [y]) (updM M4 p (.lst (acc ++ [y])))) ∧ (b = false → I (i + 1) acc M3)) ∧
  ∀ acc M, I ds.length acc M → Q (.ref p) M
/-- the test of a comprehension's clause -/
structure RTs (X : Cx) (ifs : List Expr) (t : DT) : Prop where
  pt : PTs X ifs (ttD X.K X.w t)
theorem rts_nil {X : Cx} : RTs X [] dYes := ⟨⟨fun pins s σ H Q I ⟨E, M, Q', sl, rm, h, k⟩ => pts_nil.run pins s σ H Q I (k _ _ _ (Tx.refl _) rm h)⟩⟩
theorem rts_one {X : Cx} {c : Expr} {t : DT} (h : RT X c t) : RTs X [c] t := ⟨pts_one h⟩
theorem lc_to {K : PySem.W.Frag} {w : World} {di : DI} {g : Tg} {tg : TG} {t : DT} {de : DE} {vs : List Nat} (hv : ∀ i ∈ g.ls, i ∈ vs)
    (hg : ∀ (d : D) (E : DEnv) (Q : DEnv → Prop) (v : V) (σ : L2.St) (H : Hp) (P : L2.St → Hp → Prop), dTg g d E Q → Sl K w H σ E → Rep K w H d v → (∀ E' xs, Sl K w H (setσ σ g.ls xs) E' → Q E' → P (setσ σ g.ls xs) H) → tg v σ H P)
    {σ : L2.St} {H : Hp} {Q : VK} (h : tD K w (dLc di g t de vs) σ H Q) : tLc (tiD K w di) tg (ttD K w t) (tD K w de) vs σ H Q := by
  obtain ⟨E, M, Q', sl, rm, h, k⟩ := h
  refine ⟨E, M, _, sl, rm, h, fun J H1 ds stay M1 t1 rm1 ok q => fun p hp => ?_⟩
  obtain ⟨I, i0, ist, turn, fin⟩ := q p (rm1.free hp)
  refine ⟨fun i m H' => ∃ acc M', m = ds.length - i ∧ i ≤ ds.length ∧ Tx K H1 H' ∧ Rm K w H' M' ∧ I i acc M', ⟨_, [], _, rfl, Nat.zero_le _, Tx.new hp, rm1.upd (mo := .lst []) (Tx.new hp) ⟨[], upd_same, .nil⟩, i0⟩, ?_⟩
  rintro i m H' ⟨acc, M', rfl, hi, t', rm', iv⟩
  have it := ok i H' M' t' rm' (ist i acc M' iv)
  by_cases hlt : i < ds.length
  · obtain ⟨go, yl⟩ := it.1 ds[i] (List.getElem?_eq_getElem hlt)
    refine .inr ⟨go, fun H2 => ∃ acc2 M2, Tx K H1 H2 ∧ Rm K w H2 M2 ∧ I (i + 1) acc2 M2, fun H2 ⟨acc2, M2, a, b, c⟩ => ⟨ds.length - (i + 1), by omega, acc2, M2, rfl, hlt, a, b, c⟩, fun x H2 y => ?_⟩
    obtain ⟨t2, rm2, r2⟩ := yl x H2 y
    refine hg ds[i] (wipeD E vs) _ x (wipe σ vs) H2 _ (turn i acc M' _ (List.getElem?_eq_getElem hlt) iv) ((((sl.mono t1).mono t').mono t2).wipe vs) r2 fun E3 xs sl3 q3 => ⟨?_, ?_⟩
    · rw [wipe_sets hv, wipe_idem fun i hi => hi]
    · have tt : Tx K H1 H2 := t'.trans t2
      refine ⟨E3, M', _, sl3, rm2, q3, fun b H4 M4 t4 rm4 q4 => ?_⟩
      cases b with
      | true =>
        refine ⟨E3, M4, _, sl3.mono t4, rm4, q4.1 rfl, fun v H5 d M5 t5 rm5 r5 q5 => ?_⟩
        obtain ⟨h1, h2, h3⟩ := q5
        obtain ⟨us, e, l⟩ := rm5 _ _ h1
        have tm : Tx K H5 (upd H5 p (.lst (us ++ [v]))) := Tx.mut e trivial
        exact ⟨us, e, by rw [l.length]; exact h2, _, _, tt.trans (t4.trans (t5.trans tm)), rm5.upd (mo := .lst (acc ++ [d])) tm ⟨_, upd_same, (l.append (.one r5)).mono tm⟩, h3⟩
      | false => exact ⟨_, _, tt.trans t4, rm4, q4.2 rfl⟩
  · have e : i = ds.length := by omega
    exact .inl ⟨it.2 e, k _ _ _ _ (t1.trans t') rm' (.ref p) (fin acc M' (by rw [← e]; exact iv))⟩
section
variable {X : Cx} {elt tg iter : Expr} {ifs : List Expr} {scope : Scope} {own : List (Str × Nat)} {pos : Pos} {di : DI} {g : Tg} {tG : TG} {t : DT} {de : DE}
theorem re_lc (hc : X.calm = true) (hN : X.N.Nodup) (hi : RI X tg iter di) (ok : BlkOk X.N X.env.scope scope own) (hv : ∀ i ∈ g.ls, i ∈ own.map (·.2))
    (hg : ∀ (s : Shared) (H : Hp) (C : Addr) (cl : List (Str × Addr)) (fp : List Addr), PTg (X.blk s H scope (compEnvC scope cl C X.env) fp) tg g tG)
    (ht : ∀ (s : Shared) (H : Hp) (C : Addr) (cl : List (Str × Addr)) (fp : List Addr), RTs (X.blk s H scope (compEnvC scope cl C X.env) fp) ifs t)
    (he : ∀ (s : Shared) (H : Hp) (C : Addr) (cl : List (Str × Addr)) (fp : List Addr), RE (X.blk s H scope (compEnvC scope cl C X.env) fp) elt de)
    (hs : ∀ x, foldedSetIterable iter X.env x = pure x := by intro _; rfl) : RE X (.ListComp elt [⟨tg, iter, ifs, 0⟩] scope pos) (dLc di g t de (own.map (·.2))) :=
  pe_imp (pe_lc hc hN hi ok (fun s H C cl fp => (hg s H C cl fp).pg) (fun s H C cl fp => (ht s H C cl fp).pt) he hs) fun σ H Q h => by
    refine lc_to hv (fun d E Q v σ H P => ?_) h
    exact (hg {} H 0 [] []).to d E Q v σ H P
theorem rs_setLc {i : Nat} {y : Str} {py spos : Pos} (hc : X.calm = true) (hN : X.N.Nodup) (hy : X.N[i]? = some y) (hyl : X.env.scope.names.lookup y = some .local)
    (hsw : swapsWith (.ListComp elt [⟨tg, iter, ifs, 0⟩] scope pos) (some (.Name y py)) spos.line X.env = pure true) (hi : RI X tg iter di) (ok : BlkOk X.N X.env.scope scope own) (hv : ∀ i ∈ g.ls, i ∈ own.map (·.2))
    (hg : ∀ (s : Shared) (H : Hp) (C : Addr) (cl : List (Str × Addr)) (fp : List Addr), PTg (X.blk s H scope (compEnvC scope cl C X.env) fp) tg g tG)
    (ht : ∀ (s : Shared) (H : Hp) (C : Addr) (cl : List (Str × Addr)) (fp : List Addr), RTs (X.blk s H scope (compEnvC scope cl C X.env) fp) ifs t)
    (he : ∀ (s : Shared) (H : Hp) (C : Addr) (cl : List (Str × Addr)) (fp : List Addr), RE (X.blk s H scope (compEnvC scope cl C X.env) fp) elt de)
    (hs : ∀ x, foldedSetIterable iter X.env x = pure x := by intro _; rfl) : RS X (.Assign [.Name y py] (.ListComp elt [⟨tg, iter, ifs, 0⟩] scope pos) spos) (dAsg (dLc di g t de (own.map (·.2))) (.nm i)) :=
  fun W tk => ps_imp (ps_setLc hc hN hy hyl hsw hi ok (fun s H C cl fp => (hg s H C cl fp).pg) (fun s H C cl fp => (ht s H C cl fp).pt) he hs) fun D σ H ⟨E, M, D', sl, rm, h, k⟩ => by
    refine lc_to (Q := fun x H1 => gName i x σ H1 D.nx) hv (fun d E Q v σ H P => ?_) ⟨E, M, _, sl, rm, h, fun v H1 d M1 t1 rm1 r1 q1 => k.nx _ _ _ _ t1 ((sl.mono t1).set r1 i) rm1 q1⟩
    exact (hg {} H 0 [] []).to d E Q v σ H P
end
end DH

set_option Elab.async false
set_option linter.all false
set_option autoImplicit false
set_option maxRecDepth 100000
set_option maxHeartbeats 2000000
/-! Deep readings: comprehensions with two clauses, dict displays. -/
namespace DH
open PySem PySem.Spec PyProof.Rows L2
def dLc2 (di : DI) (g : Tg) (t : DT) (di1 : DI) (g1 : Tg) (t1 : DT) (de : DE) (vs vs1 : List Nat) : DE := fun E M Q => di E M fun ds stay M1 => ∀ p, M1 p = none → ∃ I : Nat → List D → Mm → Prop, I 0 [] (updM M1 p (.lst [])) ∧ (∀ i acc M, I i acc M → stay M) ∧
  (∀ i acc M d, ds[i]? = some d → I i acc M → dTg g d (wipeD E vs) fun E2 => t E2 M fun b M3 => (b = false → I (i + 1) acc M3) ∧ (b = true → di1 E2 M3 fun ds1 stay1 M4 => ∃ J : Nat → List D → Mm → Prop, J 0 acc M4 ∧ (∀ j acc M, J j acc M → stay1 M) ∧
    (∀ j acc M d1, ds1[j]? = some d1 → J j acc M → dTg g1 d1 (wipeD E2 vs1) fun E3 => t1 E3 M fun b M5 => (b = true → de E3 M5 fun y M6 => M6 p = some (.lst acc) ∧ acc.length < sizeLine ∧ J (j + 1) (acc ++ [y]) (updM M6 p (.lst (acc ++ [y])))) ∧ (b = false → J (j + 1) acc M5)) ∧
    ∀ acc M, J ds1.length acc M → I (i + 1) acc M)) ∧
  ∀ acc M, I ds.length acc M → Q (.ref p) M
def TgTo (K : PySem.W.Frag) (w : World) (g : Tg) (tg : TG) : Prop := ∀ (d : D) (E : DEnv) (Q : DEnv → Prop) (v : V) (σ : L2.St) (H : Hp) (P : L2.St → Hp → Prop), dTg g d E Q → Sl K w H σ E → Rep K w H d v → (∀ E' xs, Sl K w H (setσ σ g.ls xs) E' → Q E' → P (setσ σ g.ls xs) H) → tg v σ H P
theorem lc2_to {K : PySem.W.Frag} {w : World} {di di1 : DI} {g g1 : Tg} {tg tg1 : TG} {t tt1 : DT} {de : DE} {vs vs1 : List Nat} (hv : ∀ i ∈ g.ls, i ∈ vs) (hv1 : ∀ i ∈ g1.ls, i ∈ vs1) (hg : TgTo K w g tg) (hg1 : TgTo K w g1 tg1)
    {σ : L2.St} {H : Hp} {Q : VK} (h : tD K w (dLc2 di g t di1 g1 tt1 de vs vs1) σ H Q) : tLc2 (tiD K w di) tg (ttD K w t) (tiD K w di1) tg1 (ttD K w tt1) (tD K w de) vs vs1 σ H Q := by
  obtain ⟨E, M, Q', sl, rm, h, k⟩ := h
  refine ⟨E, M, _, sl, rm, h, fun J H1 ds stay M1 t1 rm1 ok q => fun p hp => ?_⟩
  obtain ⟨I, i0, ist, turn, fin⟩ := q p (rm1.free hp)
  refine ⟨fun i m H' => ∃ acc M', m = ds.length - i ∧ i ≤ ds.length ∧ Tx K H1 H' ∧ Rm K w H' M' ∧ I i acc M', ⟨_, [], _, rfl, Nat.zero_le _, Tx.new hp, rm1.upd (mo := .lst []) (Tx.new hp) ⟨[], upd_same, .nil⟩, i0⟩, ?_⟩
  rintro i m H' ⟨acc, M', rfl, hi, t', rm', iv⟩
  have it := ok i H' M' t' rm' (ist i acc M' iv)
  by_cases hlt : i < ds.length
  · obtain ⟨go, yl⟩ := it.1 ds[i] (List.getElem?_eq_getElem hlt)
    refine .inr ⟨go, fun H2 => ∃ acc2 M2, Tx K H1 H2 ∧ Rm K w H2 M2 ∧ I (i + 1) acc2 M2, fun H2 ⟨acc2, M2, a, b, c⟩ => ⟨ds.length - (i + 1), by omega, acc2, M2, rfl, hlt, a, b, c⟩, fun x H2 y => ?_⟩
    obtain ⟨t2, rm2, r2⟩ := yl x H2 y
    refine hg ds[i] (wipeD E vs) _ x (wipe σ vs) H2 _ (turn i acc M' _ (List.getElem?_eq_getElem hlt) iv) ((((sl.mono t1).mono t').mono t2).wipe vs) r2 fun E3 xs sl3 q3 => ⟨?_, ?_⟩
    · rw [wipe_sets hv, wipe_idem fun i hi => hi]
    · have tt : Tx K H1 H2 := t'.trans t2
      refine ⟨E3, M', _, sl3, rm2, q3, fun b H4 M4 t4 rm4 q4 => ?_⟩
      cases b with
      | false => exact ⟨_, _, tt.trans t4, rm4, q4.1 rfl⟩
      | true =>
        refine ⟨E3, M4, _, sl3.mono t4, rm4, q4.2 rfl, fun J1 H5 ds1 stay1 M5 t5 rm5 ok1 q5 => ?_⟩
        obtain ⟨Ji, j0, jst, jturn, jfin⟩ := q5
        refine ⟨fun j m H' => ∃ acc M', m = ds1.length - j ∧ j ≤ ds1.length ∧ Tx K H5 H' ∧ Rm K w H' M' ∧ Ji j acc M', ⟨_, acc, M5, rfl, Nat.zero_le _, Tx.refl _, rm5, j0⟩, ?_⟩
        rintro j m H6 ⟨acc6, M6, rfl, hj, t6, rm6, jv⟩
        have it1 := ok1 j H6 M6 t6 rm6 (jst j acc6 M6 jv)
        have tb := tt.trans (t4.trans (t5.trans t6))
        by_cases hl1 : j < ds1.length
        · obtain ⟨go1, yl1⟩ := it1.1 ds1[j] (List.getElem?_eq_getElem hl1)
          refine .inr ⟨go1, fun H2 => ∃ acc2 M2, Tx K H5 H2 ∧ Rm K w H2 M2 ∧ Ji (j + 1) acc2 M2, fun H2 ⟨acc2, M2, a, b, c⟩ => ⟨ds1.length - (j + 1), by omega, acc2, M2, rfl, hl1, a, b, c⟩, fun x7 H7 y7 => ?_⟩
          obtain ⟨t7, rm7, r7⟩ := yl1 x7 H7 y7
          refine hg1 ds1[j] (wipeD E3 vs1) _ x7 (wipe (setσ (wipe σ vs) g.ls xs) vs1) H7 _ (jturn j acc6 M6 _ (List.getElem?_eq_getElem hl1) jv) (((((sl3.mono t4).mono t5).mono t6).mono t7).wipe vs1) r7 fun E8 xs8 sl8 q8 => ⟨?_, ?_⟩
          · rw [wipe_sets hv1, wipe_idem fun i hi => hi]
          · refine ⟨E8, M6, _, sl8, rm7, q8, fun b9 H9 M9 t9 rm9 q9 => ?_⟩
            have tc : Tx K H5 H9 := t6.trans (t7.trans t9)
            cases b9 with
            | true =>
              refine ⟨E8, M9, _, sl8.mono t9, rm9, q9.1 rfl, fun v Ha d Ma ta rma ra qa => ?_⟩
              obtain ⟨h1, h2, h3⟩ := qa
              obtain ⟨us, e, l⟩ := rma _ _ h1
              have tm : Tx K Ha (upd Ha p (.lst (us ++ [v]))) := Tx.mut e trivial
              exact ⟨us, e, by rw [l.length]; exact h2, _, _, tc.trans (ta.trans tm), rma.upd (mo := .lst (acc6 ++ [d])) tm ⟨_, upd_same, (l.append (.one ra)).mono tm⟩, h3⟩
            | false => exact ⟨_, _, tc, rm9, q9.2 rfl⟩
        · have e : j = ds1.length := by omega
          exact .inl ⟨it1.2 e, _, _, tb, rm6, jfin acc6 M6 (by rw [← e]; exact jv)⟩
  · have e : i = ds.length := by omega
    exact .inl ⟨it.2 e, k _ _ _ _ (t1.trans t') rm' (.ref p) (fin acc M' (by rw [← e]; exact iv))⟩
section
variable {X : Cx} {elt tg iter tg1 iter1 : Expr} {ifs ifs1 : List Expr} {scope : Scope} {own : List (Str × Nat)} {pos : Pos} {di di1 : DI} {g g1 : Tg} {tG tG1 : TG} {t t1 : DT} {de : DE} {vs1 : List Nat}
abbrev Xb (X : Cx) (scope : Scope) (s : Shared) (H : Hp) (C : Addr) (cl : List (Str × Addr)) (fp : List Addr) : Cx := X.blk s H scope (compEnvC scope cl C X.env) fp
theorem re_lc2 (hc : X.calm = true) (hN : X.N.Nodup) (hi : RI X tg iter di) (ok : BlkOk X.N X.env.scope scope own) (hv : ∀ i ∈ g.ls, i ∈ own.map (·.2)) (hv1 : ∀ i ∈ vs1, i ∈ own.map (·.2)) (hv2 : ∀ i ∈ g1.ls, i ∈ vs1)
    (hg : ∀ s H C cl fp, PTg (Xb X scope s H C cl fp) tg g tG) (ht : ∀ s H C cl fp, RTs (Xb X scope s H C cl fp) ifs t)
    (hi1 : ∀ s H C cl fp, RI (Xb X scope s H C cl fp) tg1 iter1 di1) (hg1 : ∀ s H C cl fp, PTg (Xb X scope s H C cl fp) tg1 g1 tG1) (ht1 : ∀ s H C cl fp, RTs (Xb X scope s H C cl fp) ifs1 t1)
    (he : ∀ s H C cl fp, RE (Xb X scope s H C cl fp) elt de)
    (hs : ∀ x, foldedSetIterable iter X.env x = pure x := by intro _; rfl) (hs1 : ∀ env x, foldedSetIterable iter1 env x = pure x := by intro _ _; rfl) :
    RE X (.ListComp elt [⟨tg, iter, ifs, 0⟩, ⟨tg1, iter1, ifs1, 0⟩] scope pos) (dLc2 di g t di1 g1 t1 de (own.map (·.2)) vs1) :=
  pe_imp (pe_lc2 hc hN hi ok hv1 (fun s H C cl fp => (hg s H C cl fp).pg) (fun s H C cl fp => (ht s H C cl fp).pt) hi1 (fun s H C cl fp => (hg1 s H C cl fp).pg) (fun s H C cl fp => (ht1 s H C cl fp).pt) he hs hs1) fun σ H Q h =>
    lc2_to hv hv2 (fun d E Q v σ H P => (hg {} H 0 [] []).to d E Q v σ H P) (fun d E Q v σ H P => (hg1 {} H 0 [] []).to d E Q v σ H P) h
theorem rs_setLc2 {i : Nat} {y : Str} {py spos : Pos} (hc : X.calm = true) (hN : X.N.Nodup) (hy : X.N[i]? = some y) (hyl : X.env.scope.names.lookup y = some .local)
    (hsw : swapsWith (.ListComp elt [⟨tg, iter, ifs, 0⟩, ⟨tg1, iter1, ifs1, 0⟩] scope pos) (some (.Name y py)) spos.line X.env = pure true) (hi : RI X tg iter di) (ok : BlkOk X.N X.env.scope scope own) (hv : ∀ i ∈ g.ls, i ∈ own.map (·.2)) (hv1 : ∀ i ∈ vs1, i ∈ own.map (·.2)) (hv2 : ∀ i ∈ g1.ls, i ∈ vs1)
    (hg : ∀ s H C cl fp, PTg (Xb X scope s H C cl fp) tg g tG) (ht : ∀ s H C cl fp, RTs (Xb X scope s H C cl fp) ifs t)
    (hi1 : ∀ s H C cl fp, RI (Xb X scope s H C cl fp) tg1 iter1 di1) (hg1 : ∀ s H C cl fp, PTg (Xb X scope s H C cl fp) tg1 g1 tG1) (ht1 : ∀ s H C cl fp, RTs (Xb X scope s H C cl fp) ifs1 t1)
    (he : ∀ s H C cl fp, RE (Xb X scope s H C cl fp) elt de)
    (hs : ∀ x, foldedSetIterable iter X.env x = pure x := by intro _; rfl) (hs1 : ∀ env x, foldedSetIterable iter1 env x = pure x := by intro _ _; rfl) :
    RS X (.Assign [.Name y py] (.ListComp elt [⟨tg, iter, ifs, 0⟩, ⟨tg1, iter1, ifs1, 0⟩] scope pos) spos) (dAsg (dLc2 di g t di1 g1 t1 de (own.map (·.2)) vs1) (.nm i)) :=
  fun W tk => ps_imp (ps_setLc2 hc hN hy hyl hsw hi ok hv1 (fun s H C cl fp => (hg s H C cl fp).pg) (fun s H C cl fp => (ht s H C cl fp).pt) hi1 (fun s H C cl fp => (hg1 s H C cl fp).pg) (fun s H C cl fp => (ht1 s H C cl fp).pt) he hs hs1) fun D σ H ⟨E, M, D', sl, rm, h, k⟩ =>
    lc2_to (Q := fun x H1 => gName i x σ H1 D.nx) hv hv2 (fun d E Q v σ H P => (hg {} H 0 [] []).to d E Q v σ H P) (fun d E Q v σ H P => (hg1 {} H 0 [] []).to d E Q v σ H P) ⟨E, M, _, sl, rm, h, fun v H1 d M1 t1 rm1 r1 q1 => k.nx _ _ _ _ t1 ((sl.mono t1).set r1 i) rm1 q1⟩
end

/-! ### dict displays -/
def dNewK : DE := fun _ M Q => ∀ p, M p = none → Q (.ref p) (updM M p (.dk []))
def dPairs : List (DE × DE) → DEnv → Mm → (List (D × D) → Mm → Prop) → Prop
  | [], _, M, Q => Q [] M
  | (dk, dv) :: r, E, M, Q => dk E M fun x M1 => dv E M1 fun y M2 => dPairs r E M2 fun ps M3 => Q ((x, y) :: ps) M3
def mergeD (kvs more : List (Key × D)) : List (Key × D) := more.foldl (fun acc kv => putD acc kv.1 kv.2) kvs
def dDisp (ps : List (DE × DE)) : DE := fun E M Q => ∀ p, M p = none → dPairs ps E (updM M p (.dk [])) fun prs M2 => M2 p = some (.dk []) ∧ ∃ kvs : List (Key × D), prs = kvs.map (fun kv => (keyD kv.1, kv.2)) ∧ kvs.length ≤ 15 ∧ Q (.ref p) (updM M2 p (.dk (mergeD [] kvs)))
/-- rows of pairs -/
inductive RepP (K : PySem.W.Frag) (w : World) (H : Hp) : List (D × D) → List (V × V) → Prop
  | nil : RepP K w H [] []
  | cons {a b : D} {x y : V} {r : List (D × D)} {s : List (V × V)} : Rep K w H a x → Rep K w H b y → RepP K w H r s → RepP K w H ((a, b) :: r) ((x, y) :: s)
section
variable {K : PySem.W.Frag} {w : World}
theorem RepP.mono {H H' : Hp} (t : Tx K H H') : ∀ {r : List (D × D)} {s : List (V × V)}, RepP K w H r s → RepP K w H' r s
  | _, _, .nil => .nil
  | _, _, .cons a b l => .cons (a.mono t) (b.mono t) (RepP.mono t l)
theorem pairs_to : ∀ {ps : List (DE × DE)} {E : DEnv} {M : Mm} {Q' : List (D × D) → Mm → Prop} {σ : L2.St} {H : Hp} {Q : List (V × V) → Hp → Prop}, Sl K w H σ E → Rm K w H M → dPairs ps E M Q' →
    (∀ prs H' ds M', Tx K H H' → Rm K w H' M' → RepP K w H' ds prs → Q' ds M' → Q prs H') → tPairs (ps.map fun p => (tD K w p.1, tD K w p.2)) σ H Q
  | [], E, M, Q', σ, H, Q, sl, rm, h, k => k _ _ _ _ (Tx.refl _) rm .nil h
  | (dk, dv) :: r, E, M, Q', σ, H, Q, sl, rm, h, k => by
    refine ⟨E, M, _, sl, rm, h, fun v H1 d M1 t1 rm1 r1 q1 => ⟨E, M1, _, sl.mono t1, rm1, q1, fun u H2 d2 M2 t2 rm2 r2 q2 => ?_⟩⟩
    exact pairs_to ((sl.mono t1).mono t2) rm2 q2 fun prs H3 ds M3 t3 rm3 r3 q3 => k _ _ _ _ (t1.trans (t2.trans t3)) rm3 (.cons ((r1.mono t2).mono t3) (r2.mono t3) r3) q3
theorem repP_keys {H : Hp} : ∀ {kvs : List (Key × D)} {prs : List (V × V)}, RepP K w H (kvs.map fun kv => (keyD kv.1, kv.2)) prs → ∃ gs : List (Key × V), prs = gs.map (fun kv => (kV kv.1, kv.2)) ∧ RepF K w H kvs gs
  | [], _, .nil => ⟨[], rfl, .nil⟩
  | (k, d) :: r, _, .cons a b l => by
    obtain ⟨gs, rfl, rf⟩ := repP_keys l
    exact ⟨(k, _) :: gs, by rw [keyD_rep a]; rfl, .cons b rf⟩
theorem RepF.merge {H : Hp} : ∀ {more : List (Key × D)} {gs : List (Key × V)} {kvs : List (Key × D)} {ks : List (Key × V)}, RepF K w H more gs → RepF K w H kvs ks → RepF K w H (mergeD kvs more) (mergeK ks gs)
  | _, _, _, _, .nil, r => r
  | _, _, _, _, .cons (k := k) h l, r => by
    have q := RepF.merge l (r.put k h)
    exact q
end
section
variable {X : Cx} {pos : Pos}
theorem re_newK : RE X (.Dict [] [] pos) dNewK := pe_imp pe_dnewK fun σ H Q ⟨E, M, Q', sl, rm, h, k⟩ p hp =>
  k _ _ _ _ (Tx.new hp) (rm.upd (mo := .dk []) (Tx.new hp) ⟨[], upd_same, .nil⟩) (.ref p) (h p (rm.free hp))
theorem re_disp {keys : List (Option Expr)} {values : List Expr} {ps : List (DE × DE)} (h : PPs X pos keys values (ps.map fun p => (tD X.K X.w p.1, tD X.K X.w p.2))) (hall : keys.all (·.isSome) = true) (hl : keys.length = values.length) (h0 : keys ≠ [])
    (h15 : keys.length ≤ 15) : RE X (.Dict keys values pos) (dDisp ps) := pe_imp (pe_disp h hall hl h0 h15) fun σ H Q ⟨E, M, Q', sl, rm, h, k⟩ p hp => by
  have t0 : Tx X.K H (upd H p (.dK [])) := Tx.new hp
  refine pairs_to (sl.mono t0) (rm.upd (mo := .dk []) t0 ⟨[], upd_same, .nil⟩) (h p (rm.free hp)) fun prs H2 ds M2 t2 rm2 r2 q2 => ?_
  obtain ⟨h1, kvs, rfl, h3, h4⟩ := q2
  obtain ⟨gs, rfl, rf⟩ := repP_keys r2
  obtain ⟨ks, e, r0⟩ := rm2 _ _ h1
  cases r0
  have tm : Tx X.K H2 (upd H2 p (.dK (mergeK [] gs))) := Tx.mut e trivial
  refine ⟨e, gs, rfl, by rw [rf.length]; exact h3, ?_⟩
  exact k _ _ _ _ (t0.trans (t2.trans tm)) (rm2.upd (mo := .dk (mergeD [] kvs)) tm ⟨_, upd_same, (rf.merge .nil).mono tm⟩) (.ref p) h4
end
end DH
namespace DH
open PySem PySem.Spec PyProof.Rows L2
/-! ### callees by name -/
abbrev Xf (P : Program) (w : World) (K : PySem.W.Frag) (mg : Str → Option Value) (base : Heap) (N : List Str) (qual : Str) (scope : Scope) (f : Addr) (cdv : Value) (A : Around) (outer : List Env) (s : Shared) (H : Hp) (E : XK) : Cx := (cxOf CX0 P w K mg base N qual scope f cdv A outer s H E).nox
/-- a def of the top that keeps the promise sp with k levels -/
structure Cal (P : Program) (w : World) (K : PySem.W.Frag) (mg : Str → Option Value) (base : Heap) (k : Nat) (x : Str) (ps : List Str) (sp : DSp) : Prop where
  ex : ∃ f fd, FnOk P w K mg base CX0 k f fd ps (spD K w sp) ∧ mg x = some (.ref f) ∧ PySem.W.keepIn K (.ref f) = true ∧ Binds K fd ps []
theorem Cal.mono {P : Program} {w : World} {K : PySem.W.Frag} {mg : Str → Option Value} {base : Heap} {j k : Nat} {x : Str} {ps : List Str} {sp : DSp} (C : Cal P w K mg base j x ps sp) (h : j ≤ k) : Cal P w K mg base k x ps sp :=
  let ⟨f, fd, F, r⟩ := C.ex; ⟨f, fd, F.mono h, r⟩
theorem Cal.imp {P : Program} {w : World} {K : PySem.W.Frag} {mg : Str → Option Value} {base : Heap} {k : Nat} {x : Str} {ps : List Str} {sp sp' : DSp} (C : Cal P w K mg base k x ps sp) (h : ∀ ds M Q E, sp' ds M Q E → sp ds M Q E) : Cal P w K mg base k x ps sp' :=
  let ⟨f, fd, F, r⟩ := C.ex; ⟨f, fd, F.imp fun vs H Q E ⟨ds, M, Q', E', a, b, c, d⟩ => ⟨ds, M, Q', E', a, b, h _ _ _ _ c, d⟩, r⟩
/-- a def as the top has it -/
def Top (K : PySem.W.Frag) (mg : Str → Option Value) (x : Str) (st : Stmt) : Prop := ∃ f fd, FunD K x x (defArgs st) (defBody st) (defScope st) [] [] f fd ∧ mg x = some (.ref f)
section
variable {X : Cx} {pos : Pos}
theorem re_cal {k : Nat} {x : Str} {ps : List Str} {sp : DSp} {p : Pos} {e : Expr} {es : List Expr} {dr : DA} (C : Cal X.prog X.w X.K X.mg X.base k x ps sp) (hr : Room k X.A) (ha : RA X (e :: es) dr) (hg : Gl X x := by rfl) (hdb : (x == ("__debug__" : Str)) = false := by decide)
    (he : starEach (e :: es) X.env = (false, eval e X.env) :: starEach es X.env := by rfl) (hpl : (backTo pos (starEach es X.env)).any (·.1) = false := by rfl) : RE X (.Call (.Name x p) (e :: es) [] pos) (dCall sp dr) :=
  let ⟨_, _, F, hm, hk, hb⟩ := C.ex; re_call F hr hg hm hk hb pass0 ha hdb he hpl
theorem re_gint {x : Str} {i : Int} (h : ∃ t, X.mg x = some (.int i t)) (hg : Gl X x := by rfl) (hd : (x == ("__debug__" : Str)) = false := by decide) : RE X (.Name x pos) (dC (.int i)) :=
  let ⟨t, e⟩ := h; re_c (pe_glob (v := .int i) hg e ⟨t, rfl⟩ hd) fun _ => .int i
theorem re_gstr {x z : Str} (h : ∃ t, X.mg x = some (.str z t)) (hg : Gl X x := by rfl) (hd : (x == ("__debug__" : Str)) = false := by decide) : RE X (.Name x pos) (dC (.str z)) :=
  let ⟨t, e⟩ := h; re_c (pe_glob (v := .str z) hg e ⟨t, rfl⟩ hd) fun _ => .str z
theorem re_gkd {x : Str} {kvs : List (Str × D)} (h : ∃ a, X.mg x = some (.ref a) ∧ KdAt X.K X.w a kvs) (hg : Gl X x := by rfl) (hd : (x == ("__debug__" : Str)) = false := by decide) : RE X (.Name x pos) (dC (.kd kvs)) :=
  let ⟨a, e, h⟩ := h; re_c (pe_glob (v := .ref a) hg e rfl hd) fun _ => .kd h
/-- a built-in class as a value -/
theorem pe_ty {x : Str} (c : Ty) (hm : X.mg x = none) (hv : bootBuiltins x = some (.type c.nm) := by decide +kernel) (hg : Gl X x := by rfl) (hn : x ≠ "__name__" := by decide) (hd : (x == ("__debug__" : Str)) = false := by decide) : PE X (.Name x pos) (tC (.ty c.nm)) := pe_bltn hg hm hv rfl hn hd
end
theorem cal_mk {P : Program} {w : World} {K : PySem.W.Frag} {mg : Str → Option Value} {base : Heap} {x : Str} {st : Stmt} {N ps : List Str} {k : Nat} {sp : DSp} {b : DS}
    (T : Top K mg x st) (S : FnScope N ps (defScope st)) (bd : ∀ (kV doc pm : Value) (an : Option Addr) (cdv ct : Value) (us : List Value), us.length = ps.length → bindArgs (PySem.W.fnOf x x (defArgs st) (defBody st) (defScope st) .none kV doc pm an cdv ct) ⟨us, []⟩ = pure (ps.zip us))
    (hb : ∀ (f : Addr) (cdv : Value) (A : Around) (outer : List Env) (s : Shared) (H : Hp) (E : XK), Room k (A.deeper (envOfC x (defScope st) s.heap.objs.size f cdv)) → RSs (Xf P w K mg base N x (defScope st) f cdv A outer s H E) (defBody st) b)
    (len : ∀ ds M Q E, sp ds M Q E → ds.length = ps.length)
    (hq : ∀ ds M Q E, sp ds M Q E → b { nx := fun _ M' => Q .non M', rt := Q } (startD N.length ds) M) : Cal P w K mg base (k + 1) x ps sp := by
  obtain ⟨f, fd, F, hm⟩ := T
  exact ⟨f, fd, fn_ok F S len (hb f) hq, hm, F.kp, F.bindsN bd⟩
end DH

set_option Elab.async false
set_option linter.all false
set_option autoImplicit false
set_option maxRecDepth 100000
set_option maxHeartbeats 2000000
/-! Deep readings: instances, zip, str, statements that are not reached. -/
namespace DH
open PySem PySem.Spec PyProof.Rows L2 RZ
/-! ### fields -/
def putA (f : Str) (v : D) : List (Str × D) → List (Str × D)
  | [] => [(f, v)]
  | (g, x) :: r => if g = f then (g, v) :: r else (g, x) :: putA f v r
theorem RepF.putA {K : PySem.W.Frag} {w : World} {H : Hp} {f : Str} {d : D} {x : V} (rx : Rep K w H d x) : ∀ {fs : List (Str × D)} {gs : List (Str × V)}, RepF K w H fs gs → RepF K w H (DH.putA f d fs) (L2.putF f x gs)
  | _, _, .nil => .cons rx .nil
  | _, _, .cons (k := g) h l => by
    show RepF K w H (if g = f then (g, d) :: _ else (g, _) :: DH.putA f d _) (if g = f then (g, x) :: _ else (g, _) :: L2.putF f x _)
    by_cases e : g = f
    · rw [if_pos e, if_pos e]; exact .cons rx l
    · rw [if_neg e, if_neg e]; exact .cons h (RepF.putA rx l)
/-- a class that gives its instances the attribute f -/
abbrev CF := Addr → Str → Prop
def CfOk (K : PySem.W.Frag) (cl : CF) : Prop := ∀ C f, cl C f → Cls K C ∧ NoAttr K C f
def dFld (cl : CF) (f : Str) (de : DE) : DE := fun E M Q => de E M fun x M1 => ∃ a C fs d, x = .ref a ∧ M1 a = some (.ins C fs) ∧ cl C f ∧ fs.lookup f = some d ∧ Q d M1
def dSetFld (cl : CF) (f : Str) (dv do_ : DE) : DS := fun D E M => dv E M fun y M1 => do_ E M1 fun x M2 => ∃ a C fs, x = .ref a ∧ M2 a = some (.ins C fs) ∧ cl C f ∧ fs.length < 1000 ∧ D.nx E (updM M2 a (.ins C (putA f y fs)))
def dNever : DS := fun _ _ _ => False
section
variable {X : Cx} {cl : CF} {o e v : Expr} {do_ de dv : DE} {f : Str} {pos pos' p : Pos}
theorem re_fld (hcl : CfOk X.K cl) (he : RE X e de) (hb : attributeBase e f X.env (eval e X.env) = eval e X.env := by rfl) : RE X (.Attribute e f pos) (dFld cl f de) :=
  pe_imp (pe_fld he hb) fun σ H Q ⟨E, M, Q', sl, rm, h, k⟩ => ⟨E, M, _, sl, rm, h, fun v H1 d M1 t1 rm1 r1 q1 => by
    obtain ⟨a, C, fs, d', rfl, hM, hc, hl, q⟩ := q1
    obtain ⟨dx, gs, hH, rf⟩ := rm1 a _ hM
    obtain ⟨x, hx, rx⟩ := rf.lookup hl
    exact ⟨a, C, dx, gs, x, r1.inv_ref, hH, (hcl C f hc).1, (hcl C f hc).2, hx, k _ _ _ _ t1 rm1 rx q⟩⟩
theorem rs_setFld (hcl : CfOk X.K cl) (ho : RE X o do_) (hv : RE X v dv) (hs : swapsWith v (some (.Attribute o f pos')) pos.line X.env = pure false := by rfl) : RS X (.Assign [.Attribute o f pos'] v pos) (dSetFld cl f dv do_) :=
  fun W tk => ps_imp (ps_fld ho hv hs) fun D σ H ⟨E, M, D', sl, rm, h, k⟩ => ⟨E, M, _, sl, rm, h, fun x H1 d M1 t1 rm1 r1 q1 => ⟨E, M1, _, sl.mono t1, rm1, q1, fun y H2 d2 M2 t2 rm2 r2 q2 => by
    obtain ⟨a, C, fs, rfl, hM, hc, hl, q⟩ := q2
    obtain ⟨dx, gs, hH, rf⟩ := rm2 a _ hM
    have tm : Tx X.K H2 (upd H2 a (.ins C dx (L2.putF f x gs))) := Tx.mut hH trivial
    refine ⟨a, C, dx, gs, r2.inv_ref, hH, (hcl C f hc).1, (hcl C f hc).2, by rw [rf.length]; exact hl, ?_⟩
    exact k.nx _ _ _ _ ((t1.trans t2).trans tm) (((sl.mono t1).mono t2).mono tm) (rm2.upd (mo := .ins C (DH.putA f d fs)) tm ⟨dx, _, upd_same, (RepF.putA (r1.mono t2) rf).mono tm⟩) q⟩⟩
theorem rs_never {st : Stmt} : RS X st dNever := fun W tk => ⟨fun pins s σ H D I ⟨_, _, _, _, _, h, _⟩ => h.elim⟩
end
theorem ptg_two {X : Cx} {pos p1 p2 : Pos} {kk : Nat} {i j : Nat} {x y : Str} (hc : X.calm = true) (h1 : PG X (.Name x p1) (gName i)) (h2 : PG X (.Name y p2) (gName j)) : PTg X (.Tuple [.Name x p1, .Name y p2] kk pos) (.tp [i, j]) (gTup X.K 2 (gNames [i, j])) :=
  ptg_tup (is := [i, j]) hc (pgs_cons h1 (pgs_cons h2 pgs_nil)) rfl
/-! ### making an instance -/
/-- a class of the top whose __init__ keeps the promise sp -/
structure CalI (P : Program) (w : World) (K : PySem.W.Frag) (mg : Str → Option Value) (base : Heap) (k : Nat) (x : Str) (C : Addr) (ps : List Str) (sp : DSp) : Prop where
  ex : ∃ f fd, FnOk P w K mg base CX0 k f fd ps (spD K w sp) ∧ Mk K C f ∧ mg x = some (.ref C) ∧ Binds K fd ps []
theorem CalI.mono {P : Program} {w : World} {K : PySem.W.Frag} {mg : Str → Option Value} {base : Heap} {j k : Nat} {x : Str} {C : Addr} {ps : List Str} {sp : DSp} (c : CalI P w K mg base j x C ps sp) (h : j ≤ k) : CalI P w K mg base k x C ps sp :=
  let ⟨f, fd, F, r⟩ := c.ex; ⟨f, fd, F.mono h, r⟩
def dMake (C : Addr) (sp : DSp) (da : DA) : DE := fun E M Q => da E M fun vs M1 => ∀ x, M1 x = none → sp (.ref x :: vs) (updM M1 x (.ins C [])) (fun v M2 => v = .non ∧ Q (.ref x) M2) EX0
theorem re_make {X : Cx} {pos p : Pos} {k : Nat} {x : Str} {C : Addr} {ps : List Str} {sp : DSp} {e : Expr} {es : List Expr} {dr : DA} (c : CalI X.prog X.w X.K X.mg X.base k x C ps sp) (hr : Room (k + 1) X.A) (ha : RA X (e :: es) dr) (hg : Gl X x := by rfl) (hdb : (x == ("__debug__" : Str)) = false := by decide)
    (he : starEach (e :: es) X.env = (false, eval e X.env) :: starEach es X.env := by rfl) (hpl : (backTo pos (starEach es X.env)).any (·.1) = false := by rfl) : RE X (.Call (.Name x p) (e :: es) [] pos) (dMake C sp dr) := by
  obtain ⟨f, fd, F, M0, hm, hb⟩ := c.ex
  refine pe_imp (pe_make M0 F hr hg hm hb .nil pass0 ha hdb he hpl) fun σ H Q ⟨E, M, Q', sl, rm, h, k⟩ => ⟨E, M, _, sl, rm, h, fun vs H1 ds M1 t1 rm1 r1 q1 x dx hx hdx hne => ?_⟩
  have hx1 : upd H1 dx (.own x) x = none := by rw [upd_ne (Ne.symm hne)]; exact hx
  have tm : Tx X.K H1 (upd (upd H1 dx (.own x)) x (.ins C dx [])) := (Tx.new hdx).trans (Tx.new hx1)
  have rm2 := (rm1.keepNew (ho := .own x) hdx).upd (mo := .ins C []) (Tx.new (o := .ins C dx []) hx1) ⟨dx, [], upd_same, .nil⟩
  refine ⟨.ref x :: ds, updM M1 x (.ins C []), _, EX0, .cons (.ref x) (by rw [List.append_nil]; exact r1.mono tm), rm2, q1 x (rm1.free hx), fun v H' d M' t' rm' r' ⟨e1, q⟩ => ?_, fun _ _ _ _ _ _ z => z.elim⟩
  subst e1
  exact ⟨r'.inv_non, k _ _ _ _ ((t1.trans tm).trans t') rm' (.ref x) q⟩
theorem cali_mk {P : Program} {w : World} {K : PySem.W.Frag} {mg : Str → Option Value} {base : Heap} {x m qual : Str} {st : Stmt} {C f : Addr} {fd : FuncData} {N ps : List Str} {k : Nat} {sp : DSp} {b : DS}
    (F : FunD K m qual (defArgs st) (defBody st) (defScope st) [] [] f fd) (M0 : Mk K C f) (hm : mg x = some (.ref C)) (S : FnScope N ps (defScope st)) (bd : ∀ (kV doc pm : Value) (an : Option Addr) (cdv ct : Value) (us : List Value), us.length = ps.length → bindArgs (PySem.W.fnOf m qual (defArgs st) (defBody st) (defScope st) .none kV doc pm an cdv ct) ⟨us, []⟩ = pure (ps.zip us))
    (hb : ∀ (cdv : Value) (A : Around) (outer : List Env) (s : Shared) (H : Hp) (E : XK), Room k (A.deeper (envOfC qual (defScope st) s.heap.objs.size f cdv)) → RSs (Xf P w K mg base N qual (defScope st) f cdv A outer s H E) (defBody st) b)
    (len : ∀ ds M Q E, sp ds M Q E → ds.length = ps.length)
    (hq : ∀ ds M Q E, sp ds M Q E → b { nx := fun _ M' => Q .non M', rt := Q } (startD N.length ds) M) : CalI P w K mg base (k + 1) x C ps sp :=
  ⟨f, fd, fn_ok F S len hb hq, M0, hm, F.bindsN bd⟩
/-! ### zip -/
def zipD (xs ys : List D) : List D := (xs.zip ys).map fun p => .tup [p.1, p.2]
def dZip (da : DA) : DI := fun E M Q => da E M fun ds M1 => match ds with
  | [.tup xs, .tup ys] => Q (zipD xs ys) (fun _ => True) M1
  | [.ref a, .ref b] => ∃ xs ys, IsL M1 a xs ∧ IsL M1 b ys ∧ Q (zipD xs ys) (fun M => IsL M a xs ∧ IsL M b ys) M1
  | _ => False
section
variable {K : PySem.W.Frag} {w : World} {H : Hp}
theorem zip_at {xs ys : List D} {i : Nat} {d : D} (h : (zipD xs ys)[i]? = some d) : ∃ x y, xs[i]? = some x ∧ ys[i]? = some y ∧ d = .tup [x, y] := by
  unfold zipD at h
  rw [List.getElem?_map] at h
  obtain ⟨p, h1, h2⟩ := Option.map_eq_some_iff.mp h
  obtain ⟨h3, h4⟩ := List.getElem?_zip_eq_some.mp h1
  exact ⟨p.1, p.2, h3, h4, h2.symm⟩
theorem zip_len (xs ys : List D) : (zipD xs ys).length = min xs.length ys.length := by unfold zipD; simp
theorem it_zipT {a b : Addr} {ds es : List D} {xs ys : List V} (sx : SqT K H a xs) (sy : SqT K H b ys) (lx : RepL K w H ds xs) (ly : RepL K w H es ys) : ItOk K w H (ItzT K a b) (zipD ds es) (fun _ => True) := fun i H' M t rm st => by
  refine ⟨fun d e => ?_, fun e => ⟨xs, ys, t.t _ _ sx, t.t _ _ sy, by rw [lx.length, ly.length, e, zip_len]; omega⟩⟩
  obtain ⟨x, y, ex, ey, rfl⟩ := zip_at e
  obtain ⟨u, e1, r⟩ := lx.get ex
  obtain ⟨v, e2, r2⟩ := ly.get ey
  refine ⟨⟨xs, ys, u, v, t.t _ _ sx, t.t _ _ sy, e1, e2⟩, fun z H2 h => ?_⟩
  obtain ⟨T, u', v', rfl, hT, rfl, h1, h2⟩ := h
  have q1 := h1 xs (t.t _ _ sx)
  have q2 := h2 ys (t.t _ _ sy)
  rw [e1] at q1; cases q1
  rw [e2] at q2; cases q2
  have tn : Tx K H' (upd H' T (.tup [u, v])) := Tx.new hT
  exact ⟨tn, rm.keepNew hT, .tup (.inl (.of upd_same)) (.cons ((r.mono t).mono tn) (.cons ((r2.mono t).mono tn) .nil))⟩
theorem it_zipL {a b : Addr} {ds es : List D} : ItOk K w H (Itz K a b) (zipD ds es) (fun M => IsL M a ds ∧ IsL M b es) := fun i H' M t rm ⟨sa, sb⟩ => by
  obtain ⟨xs, sx, lx⟩ := sa.sq rm
  obtain ⟨ys, sy, ly⟩ := sb.sq rm
  refine ⟨fun d e => ?_, fun e => ⟨xs, ys, sx, sy, by rw [lx.length, ly.length, e, zip_len]; omega⟩⟩
  obtain ⟨x, y, ex, ey, rfl⟩ := zip_at e
  obtain ⟨u, e1, r⟩ := lx.get ex
  obtain ⟨v, e2, r2⟩ := ly.get ey
  refine ⟨⟨xs, ys, u, v, sx, sy, e1, e2⟩, fun z H2 h => ?_⟩
  obtain ⟨T, u', v', rfl, hT, rfl, h1, h2⟩ := h
  have q1 := h1 xs sx
  have q2 := h2 ys sy
  rw [e1] at q1; cases q1
  rw [e2] at q2; cases q2
  have tn : Tx K H' (upd H' T (.tup [u, v])) := Tx.new hT
  exact ⟨tn, rm.keepNew hT, .tup (.inl (.of upd_same)) (.cons (r.mono tn) (.cons (r2.mono tn) .nil))⟩
end
theorem ri_zip {X : Cx} {e e2 : Expr} {da : DA} {p pos tpos : Pos} {elts : List Expr} {kk : Nat} (hg : Gl X "zip") (hm : X.mg "zip" = none) (ha : RA X [e, e2] da)
    (hs : starEach [e, e2] X.env = (false, eval e X.env) :: starEach [e2] X.env := by rfl) (hpl : (backTo pos (starEach [e2] X.env)).any (·.1) = false := by rfl) : RI X (.Tuple elts kk tpos) (.Call (.Name "zip" p) [e, e2] [] pos) (dZip da) :=
  pi_imp (pi_zipA hg hm ha hs hpl) fun σ H R ⟨E, M, Q', sl, rm, h, k⟩ => ⟨E, M, _, sl, rm, h, fun vs H' ds M' t rm' r q => by
    split at q
    · obtain ⟨v, u, rfl, r1, r2⟩ := r.inv2
      obtain ⟨a, xs, rfl, sq, l⟩ := r1.inv_tup
      obtain ⟨b, ys, rfl, sq2, l2⟩ := r2.inv_tup
      exact ⟨a, b, xs, ys, rfl, .inr ⟨sq, sq2, k _ _ _ _ _ t rm' (it_zipT sq sq2 l l2) q⟩⟩
    · obtain ⟨v, u, rfl, r1, r2⟩ := r.inv2
      obtain ⟨ds1, es1, h1, h2, h3⟩ := q
      obtain ⟨xs, sq, l⟩ := h1.sq rm'
      obtain ⟨ys, sq2, l2⟩ := h2.sq rm'
      exact ⟨_, _, xs, ys, by rw [r1.inv_ref, r2.inv_ref], .inl ⟨sq, sq2, k _ _ _ _ _ t rm' it_zipL h3⟩⟩
    · exact q.elim⟩
/-! ### str -/
def oStr : DL := fun ds M Q => match ds with
  | [.int i] => i.natAbs.log2 < 1920 ∧ Q (.str (toString i)) M
  | _ => False
theorem rl_str {K : PySem.W.Frag} {w : World} : RLR K w (fun xs H Q => ∃ i, xs = [.int i] ∧ i.natAbs.log2 < 1920 ∧ Q (.str (toString i)) H) oStr := fun ds M Q' xs H Q rm rl h k => by
  unfold oStr at h
  split at h
  · obtain ⟨v, rfl, r⟩ := rl.inv1
    exact ⟨_, by rw [r.inv_int], h.1, k.now rm (.str _) h.2⟩
  · exact h.elim
end DH

set_option Elab.async false
set_option linter.all false
set_option autoImplicit false
set_option maxRecDepth 100000
set_option maxHeartbeats 2000000
/-! Deep readings: the top and the end. -/
namespace DH
open PySem PySem.Spec PyProof.Rows L2
theorem cal_no {P : Program} {w : World} {K : PySem.W.Frag} {mg : Str → Option Value} {base : Heap} {x : Str} {st : Stmt} {ps : List Str} {k : Nat} {sp : DSp}
    (T : Top K mg x st) (bd : ∀ (kV doc pm : Value) (an : Option Addr) (cdv ct : Value) (us : List Value), us.length = ps.length → bindArgs (PySem.W.fnOf x x (defArgs st) (defBody st) (defScope st) .none kV doc pm an cdv ct) ⟨us, []⟩ = pure (ps.zip us))
    (no : ∀ ds M Q E, ¬ sp ds M Q E) : Cal P w K mg base k x ps sp := by
  obtain ⟨f, fd, F, hm⟩ := T
  exact ⟨f, fd, ⟨fun vs H Q E ⟨ds, M, Q', E', _, _, h, _⟩ => (no _ _ _ _ h).elim, fun A outer s H args us vs Q E _ _ _ _ ⟨ds, M, Q', E', _, _, h, _⟩ => (no _ _ _ _ h).elim⟩, hm, F.kp, F.bindsN bd⟩
/-- scalars as the head names them -/
def toDv : D → He.Dv
  | .bl b => .bl b
  | .int i => .int i
  | .str x => .str x
  | _ => .non
def scalD : D → Bool
  | .non | .bl _ | .int _ | .str _ => true
  | _ => false
theorem flt_dv {d : D} (K : PySem.W.Frag) (h : scalD d = true) : Flt d ((toDv d).v K) := by
  cases d <;> first | (cases h; done) | constructor
theorem look_mem {z : Str} {d : D} : ∀ {kvs : List (Str × D)}, kvs.lookup z = some d → (z, d) ∈ kvs
  | [], h => by simp at h
  | (k, e) :: r, h => by
    rw [List.lookup_cons] at h
    cases q : z == k with
    | true =>
      rw [q] at h
      have e1 : z = k := eq_of_beq q
      cases h
      subst e1
      exact List.mem_cons_self
    | false =>
      rw [q] at h
      exact List.mem_cons_of_mem _ (look_mem h)
theorem look_none {z : Str} : ∀ {kvs : List (Str × D)}, kvs.lookup z = none → ∀ q ∈ kvs, q.1 ≠ z
  | [], _, q, h => by cases h
  | (k, e) :: r, h, q, hq => by
    rw [List.lookup_cons] at h
    cases c : z == k with
    | true => rw [c] at h; cases h
    | false =>
      rw [c] at h
      rcases List.mem_cons.mp hq with rfl | hq
      · intro e1
        have e1 : k = z := e1
        subst e1
        simp at c
      · exact look_none h q hq
theorem kdAt_of {K : PySem.W.Frag} {w : World} {a : Addr} {kvs : List (Str × D)} (hk : He.dicW K a = some (He.keysIn w.params (kvs.map (·.1)))) (hv : He.valsB K a (kvs.map fun q => (q.1, toDv q.2)) = true)
    (hs : kvs.length ≤ 1000) (hf : (kvs.all fun q => scalD q.2) = true) : KdAt K w a kvs := by
  obtain ⟨es, n, kd⟩ := He.dicW_ok hk
  have hm : es.toList.map He.keyOf = He.keysIn w.params (kvs.map (·.1)) := by
    unfold He.dicW at hk
    rw [kd.at_] at hk
    simp only [kd.low] at hk
    exact Option.some.inj hk
  have hsz : es.size = kvs.length := by
    have := congrArg List.length hm
    simpa [He.keysIn] using this
  refine ⟨⟨es, n, kd, hsz⟩, hs, fun z d h => ?_, fun z h => ?_⟩
  · have hq := look_mem h
    obtain ⟨u, h1, h2⟩ := He.valsB_ok hv (List.mem_map.mpr ⟨_, hq, rfl⟩)
    exact ⟨u, _, h1, h2, flt_dv K (List.all_eq_true.mp hf _ hq)⟩
  · have hno := look_none h
    have hkey : ∀ e ∈ es.toList, ∃ x t, e.key = .str x t ∧ x ≠ z := fun e he => by
      have h1 : He.keyOf e ∈ es.toList.map He.keyOf := List.mem_map.mpr ⟨e, he, rfl⟩
      rw [hm] at h1
      unfold He.keysIn at h1
      obtain ⟨k, hk2, h2⟩ := List.mem_map.mp h1
      obtain ⟨q, hq, rfl⟩ := List.mem_map.mp hk2
      unfold He.keyOf at h2
      split at h2
      · rename_i x t c
        have h3 := Option.some.inj h2
        have h4 : q.1 = x := congrArg (·.1) h3
        exact ⟨x, t, c, h4 ▸ hno q hq⟩
      · cases h2
    unfold PySem.W.nsIn
    rw [kd.at_]
    have h1 : es.toList.find? (fun e => e.key.isStr z) = none := by
      rw [List.find?_eq_none]
      intro e he
      obtain ⟨x, t, hx, hne⟩ := hkey e he
      rw [hx]
      simpa [Value.isStr] using hne
    have h2 : (es.toList.any fun e => e.refKey) = false := by
      rw [List.any_eq_false]
      intro e he
      obtain ⟨x, t, hx, hne⟩ := hkey e he
      unfold DictEntry.refKey
      rw [hx]; simp
    show (match es.toList.find? (·.key.isStr z) with
      | some e => some (some e.val)
      | none => if es.toList.any (·.refKey) then none else some none) = some none
    rw [h1]
    show (if (es.toList.any fun e => e.refKey) = true then none else some none) = some none
    rw [h2]; rfl
theorem tab_of {fa : List He.Fa} {fn : List He.DefD} {ts : List He.Tab} {w : World} {K : PySem.W.Frag} (c : He.SaysT fa fn ts w K) (i : Nat) {t : He.Tab} (h : ts[i]? = some t) : He.dicW K (t.1 K) = some (He.keysIn w.params t.2) := by
  have e : (ts.map fun t => He.dicW K (t.1 K)) = ts.map fun t => some (He.keysIn w.params t.2) := congrArg (fun z : He.AlT => z.2) c
  have e2 := congrArg (fun l => l[i]?) e
  simp only [List.getElem?_map, h, Option.map_some] at e2
  exact Option.some.inj e2
theorem start_rep {K : PySem.W.Frag} {w : World} {H : Hp} {a : Addr} {ns : List Int} (ho : Only H) (h : SqL K H a (ns.map V.int)) : RepL K w H [.fl (ns.map D.int)] [.ref a] := by
  refine .cons (.fl (xs := ns.map V.int) ?_ (RepL.ints ns)) .nil
  rcases h with h | h
  · rcases h with h | ⟨o, h⟩
    · rcases ho a with q | ⟨o, xs, q⟩
      · rw [h] at q; cases q
      · rw [h] at q; cases q
    · exact .inl ⟨o, h⟩
  · exact .inr h
theorem start_sp {K : PySem.W.Frag} {w : World} {H : Hp} {a : Addr} {ns : List Int} {sp : DSp} (ho : Only H) (h : SqL K H a (ns.map V.int)) (q : ∀ (Q : DQ) (E : DX), (∀ M, Q (.bl true) M) → sp [.fl (ns.map D.int)] (fun _ => none) Q E) : spD K w sp [.ref a] H (fun v _ => v = .bl true) fun _ _ _ => False :=
  ⟨_, fun _ => none, fun d _ => d = .bl true, fun _ _ _ => False, start_rep ho h, (fun a o e => by cases e), q _ _ fun _ => rfl, fun v H' d M' _ _ r e => (by
    subst e; exact r.inv_bl), fun _ _ _ _ _ _ h => h⟩
end DH

set_option Elab.async false
set_option linter.all false
set_option autoImplicit false
set_option maxRecDepth 100000
set_option maxHeartbeats 2000000
/-! Deep readings: exceptions. -/
namespace DH
open PySem PySem.Spec PyProof.Rows L2
/-! ### a def that may raise -/
theorem fn_okX {P : Program} {w : World} {K : PySem.W.Frag} {mg : Str → Option Value} {base : Heap} {x qual : Str} {params : Arguments} {body : List Stmt} {scope : Scope} {f : Addr} {fd : FuncData} {N ps : List Str} {k : Nat} {sp : DSp} {b : DS}
    (F : FunD K x qual params body scope [] [] f fd) (S : FnScope N ps scope) (len : ∀ ds M Q E, sp ds M Q E → ds.length = ps.length)
    (hb : ∀ (cdv : Value) (A : Around) (outer : List Env) (s : Shared) (H : Hp) (E : XK), Room k (A.deeper (envOfC qual scope s.heap.objs.size f cdv)) → RSs (cxOf (L2.CX P w) P w K mg base N qual scope f cdv A outer s H E) body b)
    (hq : ∀ ds M Q E, sp ds M Q E → b { nx := fun _ M' => Q .non M', rt := Q, xc := fun cls d _ M' => E cls d M' } (startD N.length ds) M) : FnOk P w K mg base (L2.CX P w) (k + 1) f fd ps (spD K w sp) := by
  refine F.ok S (fun vs H Q E h => ?_) (fun cdv A outer s H vs Q E hr h => ?_)
  · obtain ⟨ds, M, Q', E', r, _, h, _⟩ := h
    rw [r.length]
    exact len _ _ _ _ h
  · obtain ⟨ds, M, Q', E', r, rm, h, kc, ke⟩ := h
    refine ⟨_, hb cdv A outer s H E hr (fun cls d _ H => E cls d H) (takes_of rfl rfl rfl rfl), ⟨_, M, _, repL_at r, rm, hq _ _ _ _ h, ⟨fun σ' H' E' M' t _ rm' q => kc _ _ _ _ t rm' .non q, kc, fun _ _ _ _ _ _ _ z => z.elim, fun _ _ _ _ _ _ _ z => z.elim, fun cls d σ' H' E2 M' t _ rm' q => ke cls d H' M' t rm' q⟩⟩⟩
/-- a def of the top that may raise -/
structure CalX (P : Program) (w : World) (K : PySem.W.Frag) (mg : Str → Option Value) (base : Heap) (k : Nat) (x : Str) (ps : List Str) (sp : DSp) : Prop where
  ex : ∃ f fd, FnOk P w K mg base (L2.CX P w) k f fd ps (spD K w sp) ∧ mg x = some (.ref f) ∧ PySem.W.keepIn K (.ref f) = true ∧ Binds K fd ps []
theorem CalX.mono {P : Program} {w : World} {K : PySem.W.Frag} {mg : Str → Option Value} {base : Heap} {j k : Nat} {x : Str} {ps : List Str} {sp : DSp} (C : CalX P w K mg base j x ps sp) (h : j ≤ k) : CalX P w K mg base k x ps sp :=
  let ⟨f, fd, F, r⟩ := C.ex; ⟨f, fd, F.mono h, r⟩
theorem calx_mk {P : Program} {w : World} {K : PySem.W.Frag} {mg : Str → Option Value} {base : Heap} {x : Str} {st : Stmt} {N ps : List Str} {k : Nat} {sp : DSp} {b : DS}
    (T : Top K mg x st) (S : FnScope N ps (defScope st)) (bd : ∀ (kV doc pm : Value) (an : Option Addr) (cdv ct : Value) (us : List Value), us.length = ps.length → bindArgs (PySem.W.fnOf x x (defArgs st) (defBody st) (defScope st) .none kV doc pm an cdv ct) ⟨us, []⟩ = pure (ps.zip us))
    (hb : ∀ (f : Addr) (cdv : Value) (A : Around) (outer : List Env) (s : Shared) (H : Hp) (E : XK), Room k (A.deeper (envOfC x (defScope st) s.heap.objs.size f cdv)) → RSs (cxOf (L2.CX P w) P w K mg base N x (defScope st) f cdv A outer s H E) (defBody st) b)
    (len : ∀ ds M Q E, sp ds M Q E → ds.length = ps.length)
    (hq : ∀ ds M Q E, sp ds M Q E → b { nx := fun _ M' => Q .non M', rt := Q, xc := fun cls d _ M' => E cls d M' } (startD N.length ds) M) : CalX P w K mg base (k + 1) x ps sp := by
  obtain ⟨f, fd, F, hm⟩ := T
  exact ⟨f, fd, fn_okX F S len (hb f) hq, hm, F.kp, F.bindsN bd⟩
/-! ### calls that may raise, as statements -/
def dAsgX (sp : DSp) (da : DA) (i : Nat) : DS := fun D E M => da E M fun ds M1 => sp ds M1 (fun d M2 => D.nx (E.set i (some d)) M2) (fun cls d M2 => D.xc cls d E M2)
def dDropX (sp : DSp) (da : DA) : DS := fun D E M => da E M fun ds M1 => sp ds M1 (fun _ M2 => D.nx E M2) (fun cls d M2 => D.xc cls d E M2)
def dRetX (sp : DSp) (da : DA) : DS := fun D E M => da E M fun ds M1 => sp ds M1 D.rt (fun cls d M2 => D.xc cls d E M2)
section
variable {X : Cx} {pos cpos : Pos} {k : Nat} {x : Str} {ps : List Str} {sp : DSp} {p : Pos} {e : Expr} {es : List Expr} {da : DA}
theorem pe_calX {W : WX} (C : CalX X.prog X.w X.K X.mg X.base k x ps sp) (hr : Room k X.A) (tk : L2.Takes X W) (ha : RA X (e :: es) da) (hg : Gl X x) (hdb : (x == ("__debug__" : Str)) = false)
    (he : starEach (e :: es) X.env = (false, eval e X.env) :: starEach es X.env) (hpl : (backTo cpos (starEach es X.env)).any (·.1) = false) : PE X (.Call (.Name x p) (e :: es) [] cpos) (tCallS (spD X.K X.w sp) (WE W) (taD X.K X.w da)) :=
  let ⟨_, _, F, hm, hk, hb⟩ := C.ex; pe_callS F hr hg hm hk hb (fun σ => passAt tk σ) ha hdb he hpl
theorem rs_asgX {i : Nat} {y : Str} {pos' : Pos} (hN : X.N.Nodup) (hi : X.N[i]? = some y) (hy : Loc X.env.scope y) (C : CalX X.prog X.w X.K X.mg X.base k x ps sp) (hr : Room k X.A) (ha : RA X (e :: es) da) (hg : Gl X x := by rfl) (hdb : (x == ("__debug__" : Str)) = false := by decide)
    (he : starEach (e :: es) X.env = (false, eval e X.env) :: starEach es X.env := by rfl) (hpl : (backTo cpos (starEach es X.env)).any (·.1) = false := by rfl) (hs : swapsWith (.Call (.Name x p) (e :: es) [] cpos) (some (.Name y pos')) pos.line X.env = pure false := by rfl)
    (hf : X.fn y = true ∨ X.env.scope.names.lookup y = some .local := by first | exact .inl rfl | exact .inr rfl | assumption) : RS X (.Assign [.Name y pos'] (.Call (.Name x p) (e :: es) [] cpos) pos) (dAsgX sp da i) := fun W tk =>
  ps_imp (ps_set hN hi hy (pe_calX C hr tk ha hg hdb he hpl) hs hf) fun D σ H ⟨E, M, D', sl, rm, h, kn⟩ => ⟨E, M, _, sl, rm, h, fun vs H1 ds M1 t1 rm1 r1 q1 => ⟨ds, M1, _, _, r1, rm1, q1, fun v H2 d M2 t2 rm2 r2 q2 =>
    (ptg_name (pos := pos') (pg_name hN hi hy hf)).to d E (fun E' => D'.nx E' M2) v σ H2 _ q2 ((sl.mono t1).mono t2) r2 fun E' xs sl' q => kn.nx _ _ _ _ (t1.trans t2) sl' rm2 q,
    fun cls d H2 M2 t2 rm2 q2 => kn.xc cls d σ H2 E M2 (t1.trans t2) ((sl.mono t1).mono t2) rm2 q2⟩⟩
theorem rs_dropX (C : CalX X.prog X.w X.K X.mg X.base k x ps sp) (hr : Room k X.A) (ha : RA X (e :: es) da) (hg : Gl X x := by rfl) (hdb : (x == ("__debug__" : Str)) = false := by decide)
    (he : starEach (e :: es) X.env = (false, eval e X.env) :: starEach es X.env := by rfl) (hpl : (backTo cpos (starEach es X.env)).any (·.1) = false := by rfl) (hs : swapsWith (.Call (.Name x p) (e :: es) [] cpos) none pos.line X.env = pure false := by rfl) : RS X (.Expr (.Call (.Name x p) (e :: es) [] cpos) pos) (dDropX sp da) := fun W tk =>
  ps_imp (ps_expr (pe_calX C hr tk ha hg hdb he hpl) hs) fun D σ H ⟨E, M, D', sl, rm, h, kn⟩ => ⟨E, M, _, sl, rm, h, fun vs H1 ds M1 t1 rm1 r1 q1 => ⟨ds, M1, _, _, r1, rm1, q1, fun v H2 d M2 t2 rm2 r2 q2 => kn.nx _ _ _ _ (t1.trans t2) ((sl.mono t1).mono t2) rm2 q2,
    fun cls d H2 M2 t2 rm2 q2 => kn.xc cls d σ H2 E M2 (t1.trans t2) ((sl.mono t1).mono t2) rm2 q2⟩⟩
theorem rs_retX (C : CalX X.prog X.w X.K X.mg X.base k x ps sp) (hr : Room k X.A) (ha : RA X (e :: es) da) (hg : Gl X x := by rfl) (hdb : (x == ("__debug__" : Str)) = false := by decide)
    (he : starEach (e :: es) X.env = (false, eval e X.env) :: starEach es X.env := by rfl) (hpl : (backTo cpos (starEach es X.env)).any (·.1) = false := by rfl) : RS X (.Return (some (.Call (.Name x p) (e :: es) [] cpos)) pos) (dRetX sp da) := fun W tk =>
  ps_imp (ps_ret (pe_calX C hr tk ha hg hdb he hpl)) fun D σ H ⟨E, M, D', sl, rm, h, kn⟩ => ⟨E, M, _, sl, rm, h, fun vs H1 ds M1 t1 rm1 r1 q1 => ⟨ds, M1, _, _, r1, rm1, q1, fun v H2 d M2 t2 rm2 r2 q2 => kn.rt _ _ _ _ (t1.trans t2) rm2 r2 q2,
    fun cls d H2 M2 t2 rm2 q2 => kn.xc cls d σ H2 E M2 (t1.trans t2) ((sl.mono t1).mono t2) rm2 q2⟩⟩
end
/-! ### an own exception class with an __init__ of one argument -/
/-- the promise of such an __init__: the field f holds the argument -/
def spExc (K : PySem.W.Frag) (C : Addr) (f : Str) (okV : V → Prop) : Sp := fun vs H Q _ => ∃ a v, vs = [.ref a, v] ∧ okV v ∧ OexC K C ∧ PySem.W.findIn K (.ref C) f = some none ∧ H a = some (exo a C none) ∧ ∀ dx, H dx = none → dx ≠ a → Q .non (upd (upd H dx (exd dx [(f, v)])) a (exo a C (some dx)))
structure CalE (P : Program) (w : World) (K : PySem.W.Frag) (mg : Str → Option Value) (base : Heap) (k : Nat) (x : Str) (C : Addr) (f : Str) (okV : V → Prop) : Prop where
  ex : ∃ fI fd ps, FnOk P w K mg base CX0 k fI fd ps (spExc K C f okV) ∧ PySem.W.findIn K (.ref C) "__init__" = some (some (.ref fI)) ∧ PySem.W.typeIn K (.ref fI) = some (.type "function") ∧ Binds K fd ps [] ∧ mg x = some (.ref C) ∧ OexC K C ∧ PySem.W.findIn K (.ref C) f = some none
theorem CalE.mono {P : Program} {w : World} {K : PySem.W.Frag} {mg : Str → Option Value} {base : Heap} {j k : Nat} {x : Str} {C : Addr} {f : Str} {okV : V → Prop} (c : CalE P w K mg base j x C f okV) (h : j ≤ k) : CalE P w K mg base k x C f okV :=
  let ⟨fI, fd, ps, F, r⟩ := c.ex; ⟨fI, fd, ps, F.mono h, r⟩
theorem Tx.grow {K : PySem.W.Frag} {H H' : Hp} (h : ∀ b, H b ≠ none → H' b = H b) : Tx K H H' := ⟨fun a xs e => by
  rcases e with (e | ⟨u, e⟩) | e
  · exact .inl (.inl (by rw [h a (by rw [e]; simp)]; exact e))
  · exact .inl (.inr ⟨u, by rw [h a (by rw [e]; simp)]; exact e⟩)
  · exact .inr e, fun a u v e => by rw [h a (by rw [e]; simp)]; exact e⟩
def dRaise (C : Addr) (f : Str) (okD : D → Prop) (de : DE) : DS := fun D E M => de E M fun v M1 => okD v ∧ ∀ d, M1 d = none → D.xc (.ref C) (some d) E (updM M1 d (.xd [(f, v)]))
theorem rs_raise {X : Cx} {pos p cpos : Pos} {k : Nat} {x : Str} {C : Addr} {f : Str} {okV : V → Prop} {okD : D → Prop} {e : Expr} {de : DE} (c : CalE X.prog X.w X.K X.mg X.base k x C f okV) (hr : Room (k + 1) X.A) (hok : ∀ H d v, Rep X.K X.w H d v → okD d → okV v) (hcalm : X.calm = true) (he0 : RE X e de) (hg : Gl X x := by rfl) (hdb : (x == ("__debug__" : Str)) = false := by decide)
    (he : starEach [e] X.env = (false, eval e X.env) :: starEach [] X.env := by rfl) (hpl : (backTo cpos (starEach [] X.env)).any (·.1) = false := by rfl) : RS X (.Raise (some (.Call (.Name x p) [e] [] cpos)) none pos) (dRaise C f okD de) := fun W tk => by
  obtain ⟨fI, fd, ps, F, iC, tI, hb, hm, T, hno⟩ := c.ex
  refine ps_imp (ps_raise hcalm tk (pmk_oex T iC tI F hr hb .nil pass0 hg hm (pa_cons he0 pa_nil he) hdb he hpl)) fun D σ H ⟨E, M, D', sl, rm, h, kn⟩ => ?_
  refine ⟨E, M, _, sl, rm, h, fun v H1 dv M1 t1 rm1 r1 q1 => ⟨by show 1 ≤ 1000; decide, fun a ha => ?_⟩⟩
  refine ⟨a, v, rfl, hok H1 dv v r1 q1.1, T, hno, upd_same, fun dx hdx hne => ?_⟩
  have hdx1 : H1 dx = none := by rw [upd_ne hne] at hdx; exact hdx
  refine ⟨rfl, dx, [(f, v)], upd_same, by rw [upd_ne hne, upd_same], hdx1, ?_⟩
  have hoth : ∀ b, b ≠ dx → b ≠ a → (upd (del (upd (upd (upd H1 a (exo a C none)) dx (exd dx [(f, v)])) a (exo a C (some dx))) a) dx (.xd [(f, v)])) b = H1 b := fun b h1 h2 => by
    rw [upd_ne h1, del_ne h2, upd_ne h2, upd_ne h1, upd_ne h2]
  have tg : Tx X.K H1 (upd (del (upd (upd (upd H1 a (exo a C none)) dx (exd dx [(f, v)])) a (exo a C (some dx))) a) dx (.xd [(f, v)])) := Tx.grow fun b hb => hoth b (fun z => by subst z; exact hb hdx1) (fun z => by subst z; exact hb ha)
  have rmx : Rm X.K X.w (upd (del (upd (upd (upd H1 a (exo a C none)) dx (exd dx [(f, v)])) a (exo a C (some dx))) a) dx (.xd [(f, v)])) (updM M1 dx (.xd [(f, dv)])) := fun b o eb => by
    by_cases z : b = dx
    · subst z
      rw [updM_same] at eb
      cases eb
      exact ⟨_, upd_same, .cons (r1.mono tg) .nil⟩
    · rw [updM_ne z] at eb
      have hba : b ≠ a := fun q => by subst q; rw [rm1.free ha] at eb; cases eb
      exact (rm1 b o eb).keep (hoth b z hba) tg
  exact kn.xc _ _ _ _ _ _ (t1.trans tg) ((sl.mono t1).mono tg) rmx (q1.2 dx (rm1.free hdx1))
end DH

set_option Elab.async false
set_option linter.all false
set_option autoImplicit false
set_option maxRecDepth 100000
set_option maxHeartbeats 2000000
/-! Deep readings: own exception classes, from the head. -/
namespace DH
open PySem PySem.Spec PyProof.Rows L2
/-- a class below ValueError, as the head has it -/
def oexB (K : PySem.W.Frag) (C : Addr) : Bool := match K.lookup C with
  | some ⟨.type t, _, .cls ⟨_, _, mro, _, _, hd, _, _, _, _, del⟩, sl⟩ => (match mro, sl.toList with
    | .ref C' :: bm, [_, _, _, _, some (.builtin n), _] => decide (t = "type") && (decide (C' = C) && (decide (n = "ValueError.__new__") && (hd && (!del && PySem.HandSPX.refsVE bm))))
    | _, _ => false)
  | _ => false
theorem oexB_ok {K : PySem.W.Frag} {C : Addr} (h : oexB K C = true) : ∃ nm q N bs bm sn sub ab col dd k0 k1 k2 k3 k5, K.lookup C = some (excClassObj nm q C N bs bm true sn sub ab col dd k0 k1 k2 k3 k5 "ValueError.__new__") ∧ PySem.HandSPX.refsVE bm = true := by
  unfold oexB at h
  split at h
  · rename_i t dd nm bs mro N q hd sn sub ab col del sl ho
    split at h
    · rename_i C' bm k0 k1 k2 k3 n k5 hs
      simp only [Bool.and_eq_true, decide_eq_true_eq, Bool.not_eq_true'] at h
      obtain ⟨rfl, rfl, rfl, rfl, rfl, hr⟩ := h
      have e : sl = #[k0, k1, k2, k3, some (.builtin "ValueError.__new__"), k5] := by
        apply Array.toList_inj.mp
        rw [hs]
      subst e
      exact ⟨nm, q, N, bs, bm, sn, sub, ab, col, dd, k0, k1, k2, k3, k5, ho, hr⟩
    · cases h
  · cases h
def excB (K : PySem.W.Frag) (C : Addr) (f : Str) : Bool := oexB K C && (He.eqO (PySem.W.findIn K (.ref C) "__setattr__") (some (some (.builtin "object.__setattr__"))) && (decide (PySem.W.subIn K (.ref C) (.type "BaseException") = some true) && (decide (PySem.W.typeIn K (.ref C) = some (.type "type")) && (PySem.W.keepIn K (.ref C) &&
  (He.eqO (PySem.W.findIn K (.ref C) f) (some none) && (He.eqO (PySem.W.findIn K (.ref C) "__init__") (some (some (.ref (He.ma K C "__init__")))) && decide (PySem.W.typeIn K (.ref (He.ma K C "__init__")) = some (.type "function"))))))))
structure ExcF (K : PySem.W.Frag) (C : Addr) (f : Str) : Prop where
  T : OexC K C
  no : PySem.W.findIn K (.ref C) f = some none
  init : PySem.W.findIn K (.ref C) "__init__" = some (some (.ref (He.ma K C "__init__")))
  ty : PySem.W.typeIn K (.ref (He.ma K C "__init__")) = some (.type "function")
theorem excB_ok {K : PySem.W.Frag} {C : Addr} {f : Str} (h : excB K C f = true) : ExcF K C f := by
  unfold excB at h
  simp only [Bool.and_eq_true, decide_eq_true_eq] at h
  obtain ⟨h1, h2, h3, h4, h5, h6, h7, h8⟩ := h
  exact ⟨⟨oexB_ok h1, He.eqO_ok h2, h3, h4, h5⟩, He.eqO_ok h6, He.eqO_ok h7, h8⟩
/-- a base whose __init__ is ValueError's -/
def baseB (K : PySem.W.Frag) (C : Addr) : Bool := PySem.W.readsIn K C (.type "type") && (He.eqO (PySem.W.specialIn K (.ref C) "__getattribute__") (some (some (.builtin "type.__getattribute__"))) && (match PySem.W.findCls K (.ref C) (.type "type") "__init__" with
  | some (.val (.builtin n)) => decide (n = "ValueError.__init__")
  | _ => false))
structure BaseF (K : PySem.W.Frag) (C : Addr) : Prop where
  rd : PySem.W.readsIn K C (.type "type") = true
  ga : PySem.W.specialIn K (.ref C) "__getattribute__" = some (some (.builtin "type.__getattribute__"))
  at_ : PySem.W.findCls K (.ref C) (.type "type") "__init__" = some (.val (.builtin "ValueError.__init__"))
theorem baseB_ok {K : PySem.W.Frag} {C : Addr} (h : baseB K C = true) : BaseF K C := by
  unfold baseB at h
  simp only [Bool.and_eq_true] at h
  obtain ⟨h1, h2, h3⟩ := h
  refine ⟨h1, He.eqO_ok h2, ?_⟩
  split at h3
  · rename_i n e
    rw [e, of_decide_eq_true h3]
  · cases h3
section
variable {X : Cx} {e : Expr} {es : List Expr} {ta : TA} {p1 p2 pos : Pos} {bn : Str} {C0 : Addr}
theorem pe_baseInit {pl : Sem Bool} (hg : Gl X bn) (hm : X.mg bn = some (.ref C0)) (B : BaseF X.K C0) (ha : PA X (e :: es) ta) (hdb : (bn == ("__debug__" : Str)) = false := by decide)
    (hc : eval (.Call (.Attribute (.Name bn p1) "__init__" p2) (e :: es) [] pos) X.env = (do
      let ov ← eval (.Name bn p1) X.env
      standAt p2.atName
      let (f, first) ← holding [ov] (getMethod ov "__init__" pl)
      callWith pos f first (backTo pos (starEach (e :: es) X.env)) (backToKw pos (keywordEach [] X.env))) := by rfl)
    (he : starEach (e :: es) X.env = (false, eval e X.env) :: starEach es X.env := by rfl) (hpl : (backTo pos (starEach es X.env)).any (·.1) = false := by rfl) :
    PE X (.Call (.Attribute (.Name bn p1) "__init__" p2) (e :: es) [] pos) (tVeI X.K ta) :=
  ⟨fun pins s σ H Q I h => by
    refine PySem.W.methodCall_KW (ld_glob I hg hm (PySem.W.method_cls I.kIn B.ga (PySem.W.cls_value I.kIn B.rd B.at_ (by decide +kernel) ?_)) hdb) hc
    refine PyProof.Rows.callWith_method1 (thn (ha.run pos pins _ σ H _ (I.tok _) h) fun us s1 g => ?_) he hpl
    obtain ⟨vs, H1, J, rr, a, C, ws, rfl, hl, T, ea, q⟩ := g
    cases rr with
    | cons r1 r2 =>
      cases r1
      exact oinit_ok T J ea (by rw [← Paired.length r2, sizeLine_eq]; omega) fun s2 J2 => ⟨.non, H1, J2, rfl, q⟩⟩
end
def okInt (v : V) : Prop := ∃ i : Int, v = .int i ∧ i.natAbs.log2 < 1920
def okIntD (d : D) : Prop := ∃ i : Int, d = .int i ∧ i.natAbs.log2 < 1920
theorem okInt_rep {K : PySem.W.Frag} {w : World} {H : Hp} {d : D} {v : V} (r : Rep K w H d v) (h : okIntD d) : okInt v := by
  obtain ⟨i, rfl, hl⟩ := h
  exact ⟨i, r.inv_int, hl⟩
end DH

set_option Elab.async false
set_option linter.all false
set_option autoImplicit false
set_option maxRecDepth 100000
set_option maxHeartbeats 2000000
/-! Deep readings: try, except as. -/
namespace DH
open PySem PySem.Spec PyProof.Rows L2
theorem Sl.unset {K : PySem.W.Frag} {w : World} {H : Hp} {σ : L2.St} {E : DEnv} (s : Sl K w H σ E) (i : Nat) : Sl K w H (σ.set i none) (E.set i none) := by
  refine ⟨by rw [List.length_set, List.length_set]; exact s.len, fun j d e => ?_⟩
  by_cases h : i = j
  · subst h
    rw [List.getElem?_set] at e
    split at e
    · split at e <;> simp at e
    · rename_i z; exact absurd rfl z
  · rw [List.getElem?_set_ne h] at e
    obtain ⟨v, h1, h2⟩ := s.at_ j d e
    exact ⟨v, by rw [List.getElem?_set_ne h]; exact h1, h2⟩
abbrev DSuite := Addr → Value → Option Addr → DS
def dTryAs (sub : Value → Option Bool) (i : Nat) (tb : DS) (ts : DSuite) : DS := fun D E M => tb { nx := D.nx, rt := D.rt, bk := D.bk, ct := D.ct, xc := fun cls d E' M' => ∃ b, sub cls = some b ∧
  (b = true → ∀ a, M' a = none → ts a cls d { nx := fun E2 M2 => D.nx (E2.set i none) M2, rt := D.rt, bk := fun E2 M2 => D.bk (E2.set i none) M2, ct := fun E2 M2 => D.ct (E2.set i none) M2 } (E'.set i (some (.ref a))) M') ∧ (b = false → D.xc cls d E' M') } E M
section
variable {X : Cx} {x n : Str} {c : Value} {i : Nat} {body suite : List Stmt} {b₀ : Stmt} {np pos pos' : Pos} {tb : DS} {ts : DSuite}
theorem rs_tryAs (hs : X.stack = X.env :: X.outer) (hf : X.env.frame = some X.env.locals) (hN : X.N.Nodup) (hi : X.N[i]? = some n) (hln : X.env.kindOf n = some .local) (hc : Names X x c)
    (hb : ∀ (pn : List (Addr × Obj)) (xe : Value → Shared → Prop), PassesOwn (model X.prog X.w) X.A X.env xe → RSs (X.tr pn xe) body tb)
    (hsu : ∀ (a : Addr) (oe : Obj) (cls : Value) (d : Option Addr) (pn : List (Addr × Obj)), Zc cls d oe → (∃ vs, oe.data = .fields vs) → RSs (X.suite a ((a, oe) :: pn)) (b₀ :: suite) (ts a cls d)) :
    RS X (.Try body [.ExceptHandler (some (.Name x np)) (some n) (b₀ :: suite) pos'] [] [] pos) (dTryAs (fun cls => PySem.W.exmOne X.K cls c) i tb ts) := fun W tk =>
  ps_imp (ps_try_as (tb := fun W' => tsD X.K X.w W' tb) (ts := fun a cls d => tsD X.K X.w (fun _ _ _ _ => False) (ts a cls d)) hs hf hN hi hln hc tk
    (fun W' pn xe tk' po => hb pn xe po W' tk') (fun a oe cls d pn hz hff => hsu a oe cls d pn hz hff _ takes0)) fun D σ H ⟨E, M, D', sl, rm, h, kn⟩ =>
    ⟨E, M, _, sl, rm, h, ⟨kn.nx, kn.rt, kn.bk, kn.ct, fun cls d σ' H' E' M' t sl' rm' q => by
      obtain ⟨b, hb1, yes, no⟩ := q
      refine ⟨b, hb1, fun hb a ha => ?_, fun hb => kn.xc cls d σ' H' E' M' t sl' rm' (no hb)⟩
      exact ⟨E'.set i (some (.ref a)), M', _, sl'.set (.ref a) i, rm', yes hb a (rm'.free ha),
        ⟨fun σ2 H2 E2 M2 t2 sl2 rm2 q2 => kn.nx _ _ _ _ (t.trans t2) (sl2.unset i) rm2 q2, fun v H2 d2 M2 t2 rm2 r2 q2 => kn.rt _ _ _ _ (t.trans t2) rm2 r2 q2,
          fun σ2 H2 E2 M2 t2 sl2 rm2 q2 => kn.bk _ _ _ _ (t.trans t2) (sl2.unset i) rm2 q2, fun σ2 H2 E2 M2 t2 sl2 rm2 q2 => kn.ct _ _ _ _ (t.trans t2) (sl2.unset i) rm2 q2, fun _ _ _ _ _ _ _ _ _ z => z.elim⟩⟩⟩⟩
end
/-! ### a field of the exception -/
def dXf (a : Addr) (cls : Value) (d : Option Addr) (C : Addr) (f : Str) (de : DE) : DE := fun E M Q => de E M fun x M1 => x = .ref a ∧ cls = .ref C ∧ ∃ dd fs v, d = some dd ∧ M1 dd = some (.xd fs) ∧ fs.lookup f = some v ∧ Q v M1
theorem re_xf {X : Cx} {a C : Addr} {oe : Obj} {cls : Value} {d : Option Addr} {pn : List (Addr × Obj)} {e : Expr} {de : DE} {pos : Pos} {n : Str} (T : XfC X.K C) (hno : PySem.W.findIn X.K (.ref C) n = some none)
    (hz : Zc cls d oe) (hf : ∃ vs, oe.data = .fields vs) (he : RE (X.suite a ((a, oe) :: pn)) e de) (hb : attributeBase e n X.env (eval e X.env) = eval e X.env := by rfl) : RE (X.suite a ((a, oe) :: pn)) (.Attribute e n pos) (dXf a cls d C n de) :=
  pe_imp (pe_xf T hno hz hf he hb) fun σ H Q ⟨E, M, Q', sl, rm, h, k⟩ => ⟨E, M, _, sl, rm, h, fun v H1 dv M1 t1 rm1 r1 q1 => by
    obtain ⟨rfl, hcl, dd, fs, u, hd, hm, hl, q⟩ := q1
    obtain ⟨gs, hH, rf⟩ := rm1 dd _ hm
    obtain ⟨y, hy, ry⟩ := rf.lookup hl
    exact ⟨r1.inv_ref, hcl, dd, gs, y, hd, hH, hy, k _ _ _ _ t1 rm1 ry q⟩⟩
end DH

set_option Elab.async false
set_option linter.all false
set_option autoImplicit false
set_option maxRecDepth 100000
set_option maxHeartbeats 4000000
/-! Deep readings: isinstance of a caught exception that has a dict. -/
namespace DH
open PySem PySem.Spec PyProof.Rows PySem.Calls PySem.W L2
section
variable {prog : Program} {w : World} {A : Around} {E : Value → Shared → Prop} {K : Frag}
/-- `__class__` of an exception with a dict -/
theorem exc_class {z D : Addr} {oz od : Obj} {S : Shared} {Q : Option Value → Shared → Prop} (c : ExcC K D) (kin : K.In S.heap) (at_ : InstAt S.heap z oz D (some od)) (done : Q (some (.ref D)) { S with toks := S.toks + 1 }) :
    wpAny (model prog w) A (getAttr? (.ref z) "__class__") Q E S := by
  have cls : (clsIn K D).isSome = true := by
    obtain ⟨cd, q, _⟩ := any_some c.hd
    rw [q]; rfl
  have fo : findObj K D (some od) "__class__" = _ := findObj_data cls c.ha c.hn c.ht
  obtain ⟨hh, gg, dd, tt, oo⟩ := S
  have tyL := at_.type (M := model prog w)
  have gaL := looks_findIn (M := model prog w) kin c.hg
  have gtL := looks_findIn (M := model prog w) kin c.hk
  have foL := looks_find (M := model prog w) kin at_ fo
  have isE : Looks (model prog w) hh (isInstance (.ref z) (.type "BaseException")) true := tyL.andThen (looks_subIn kin c.hs)
  have b2 : (Value.builtin "BaseException.__getattribute__" == Value.builtin "object.__getattribute__") = false := by decide +kernel
  have b1 : (onTheHeap (Value.ref D) && Value.builtin "BaseException.__getattribute__" == Value.builtin "object.__getattribute__") = false := by
    rw [b2]; rfl
  unfold getAttr? getAttrBy? getAttrBy
  refine wpAny_bind (wpAny_mkText ?_)
  refine wpAny_bind (wpAny_attempt (wpAny_holding ?_))
  refine wpAny_bind (tyL.at (wpAny_bind (gaL.at ?_)))
  show wpAny _ _ (if (onTheHeap (Value.ref D) && Value.builtin "BaseException.__getattribute__" == Value.builtin "object.__getattribute__") = true then _ else _) _ _ _
  rw [b1, if_neg Bool.false_ne_true]
  unfold getAttrByItsOwn hookBefore
  refine wpAny_bind ?_
  have onH : onTheHeap (Value.ref D) = true := rfl
  rw [if_pos onH]
  refine gtL.at (wpAny_bind (wpAny_attempt (wpAny_holding ?_)))
  unfold callGetattribute
  rw [show (false && onTheHeap (Value.builtin "BaseException.__getattribute__")) = false from rfl, if_neg Bool.false_ne_true]
  unfold boundAndCalled
  rw [PySem.F.excAttr_ValueError.ga.bind (.ref z)]
  refine wpAny_bind (wpAny_pure ?_)
  show wpAny _ _ (call (.builtin "BaseException.__getattribute__") [.ref z, .str "__class__" tt]) _ _ _
  refine wpAny_call ?_
  refine codeAny_call_builtin PySem.F.excAttr_ValueError.ga.plain PySem.F.entry_bexc_ga ?_
  have ar := PySem.F.args_bexc_ga (.ref z) (.str "__class__" tt)
  refine @check_slot (model prog w) _ _ ⟨hh, gg, dd, tt + 1, oo⟩
    "BaseException.__getattribute__" "BaseException" "__getattribute__"
    (.ref z) [.str "__class__" tt] [] _ (by decide +kernel)
    (by decide +kernel) isE ar ?_
  unfold Builtin.«object.__getattribute__»
  refine wpAny_bind (wpAny_of_eq (a := ((Value.ref z : Value), [Value.str "__class__" tt])) (by first | rfl | (simp only [slotArgs]; rfl)) ?_)
  refine wpAny_bind (wpAny_pure ?_)
  refine wpAny_bind (tyL.at (wpAny_bind (foL.at ?_)))
  show wpAny _ _ (holding [Value.builtin "object.__class__"] (call (.builtin "getset_descriptor.__get__") [.builtin "object.__class__", .ref z, .ref D]) >>= ret) _ _ _
  refine wpAny_bind (wpAny_holding (wpAny_call ?_))
  refine class_get (s := ⟨hh, gg, dd, tt + 1, oo⟩) (ox := oz) (od := some od) kin at_ c.hm (wpAny_pure ?_)
  show wpAny _ _ (handedOut (.ref D)) _ _ _
  rw [handedOut_of (v := .ref D) rfl]
  first
    | exact wpAny_pure (wpAny_pure done)
    | exact wpAny_pure done
    | exact wpAny_pure (wpAny_bind (wpAny_pure (wpAny_pure done)))
end
end DH

set_option Elab.async false
set_option linter.all false
set_option autoImplicit false
set_option maxRecDepth 100000
set_option maxHeartbeats 4000000
/-! Deep readings: isinstance of a caught exception that has a dict, the rule. -/
namespace DH
open PySem PySem.Spec PyProof.Rows PySem.Calls PySem.W L2
section
variable {K : Frag}
theorem exc_obj_at {D : Addr} (c : ExcC K D) : ∃ o cd, K.lookup D = some o ∧ o.data = .cls cd := by
  obtain ⟨cd, q, _⟩ := any_some c.hd
  unfold clsIn at q
  split at q
  · rename_i e
    exact ⟨_, _, e, rfl⟩
  · cases q
/-- what is told of e, by its class -/
theorem exc_kit {z D : Addr} {oz od : Obj} (c : ExcC K D) : KitX K (.ref z) (.ref D) (fun h => InstAt h z oz D (some od)) where
  ty := fun M h _ at_ => at_.type
  it := fun M h kin _ => by
    obtain ⟨o, cd, e, ed⟩ := exc_obj_at c
    intro A Q E s keep q
    unfold isType loadHead
    refine wpAny_bind (wpAny_loadPart (keep _ _ (kin _ _ e)) (wpAny_pure ?_))
    rw [ed]
    exact q
  ne := fun h tp dd its n sl kin htp => by
    obtain ⟨o, cd, e, ed⟩ := exc_obj_at c
    cases hq : (Value.ref D == Value.ref tp) with
    | false => rfl
    | true =>
      have same : D = tp := Value.ref.inj (eq_of_beq hq)
      rw [same] at e
      have two := kin _ _ e
      rw [htp] at two
      cases two
      cases ed
  ca := fun kin at_ done => exc_class c kin at_ done
end
/-- isinstance(e, c) by values, e caught, of class D, its dict at dd -/
def rIsX (K : Frag) (D a : Addr) (dd : Option Addr) : List V → Hp → VK → Prop := fun xs H Q => ∃ (c : V) (cv : Value) (b : Bool) (d : Addr) (fs : List (Str × V)), xs = [.ref a, c] ∧ (∀ u, RelV c u → u = cv) ∧ kitOne K (.ref D) cv = some b ∧ dd = some d ∧ H d = some (.xd fs) ∧ Q (.bl b) H
theorem call_isX {X : Cx} {a D : Addr} {oe : Obj} {dd : Option Addr} {pn : List (Addr × Obj)} (c : ExcC X.K D) (hz : Zc (.ref D) dd oe) (hf : ∃ vs, oe.data = .fields vs) : CallR (X.suite a ((a, oe) :: pn)) (.builtin "isinstance") (rIsX X.K D a dd) :=
  fun pins s σ H xs us Q I r h => by
    obtain ⟨v, cv, b, d, fs, rfl, hcv, hk, rfl, hd, q⟩ := h
    obtain ⟨u1, u2, rfl, r1, r2⟩ : ∃ u1 u2, us = [u1, u2] ∧ RelV (.ref a) u1 ∧ RelV v u2 := by
      cases r with
      | cons x y =>
        cases y with
        | cons x2 y2 => cases y2; exact ⟨_, _, rfl, x, x2⟩
    have e1 : u1 = Value.ref a := r1
    have e2 := hcv _ r2
    subst e1
    subst e2
    have got := (I.pin (a, oe) (List.mem_append_left _ List.mem_cons_self)).1
    obtain ⟨vs, hv⟩ := hf
    obtain ⟨mA, hns, _⟩ : ObjOk X.prog X.w H s.heap d (.xd fs) := I.hok d _ hd
    obtain ⟨od, ho, _⟩ := lookIn_ns hns
    have at_ : InstAt s.heap a oe D (some od) := ⟨got, hz.1, by unfold notCls; rw [hv] <;> rfl, by rw [hz.2]; exact ho⟩
    exact kia_one (exc_kit c) I.kIn at_ hk (fun z => nomatch z) fun tk => ⟨.bl b, H, I.kept (t' := tk) fun _ _ z => z, rfl, q⟩
/-- isinstance(e, c), deep: e caught, of the class C -/
def dIsX (kit : Value → Option Bool) (a : Addr) (cls : Value) (dd : Option Addr) (C : Addr) (de : DE) : DE := fun E M Q => cls = .ref C ∧ de E M fun x M1 => x = .ref a ∧ ∃ (d : Addr) (fs : List (Str × DH.D)) (b : Bool), dd = some d ∧ M1 d = some (.xd fs) ∧ kit (.ref C) = some b ∧ Q (.bl b) M1
theorem re_isX {X : Cx} {a C : Addr} {oe : Obj} {cls : Value} {dd : Option Addr} {pn : List (Addr × Obj)} {e c1 : Expr} {de : DE} {p pos : Pos} {u : V} {cv : Value} (c : ExcC X.K C) (hz : Zc cls dd oe) (hf : ∃ vs, oe.data = .fields vs)
    (he : RE (X.suite a ((a, oe) :: pn)) e de) (hc : PE (X.suite a ((a, oe) :: pn)) c1 (tC u)) (hcv : ∀ y, RelV u y → y = cv) (hg : Gl (X.suite a ((a, oe) :: pn)) "isinstance") (hm : X.mg "isinstance" = none)
    (h1 : starEach [e, c1] X.env = (false, eval e X.env) :: starEach [c1] X.env := by rfl) (h2 : starEach [c1] X.env = (false, eval c1 X.env) :: starEach [] X.env := by rfl) (hpl : (backTo pos (starEach [c1] X.env)).any (·.1) = false := by rfl) :
    RE (X.suite a ((a, oe) :: pn)) (.Call (.Name "isinstance" p) [e, c1] [] pos) (dIsX (fun t => kitOne X.K t cv) a cls dd C de) := by
  by_cases hcls : cls = .ref C
  · subst hcls
    refine pe_imp (pe_callB (call_isX c hz hf) hg hm boot_isinstance (pa_cons he (pa_cons hc pa_nil h2) h1) (by decide) (by decide) h1 hpl) fun σ H Q hh => ?_
    obtain ⟨E, M, Q', sl, rm, h, k⟩ := hh
    refine ⟨E, M, _, sl, rm, h.2, fun v H1 d0 M1 t1 rm1 r1 q1 => ?_⟩
    obtain ⟨rfl, d, fs, b, rfl, hd, hk, q⟩ := q1
    obtain ⟨gs, hH, rf⟩ := rm1 d _ hd
    exact ⟨u, cv, b, d, gs, by rw [r1.inv_ref], hcv, hk, rfl, hH, (k.tx t1).now rm1 (.bl _) q⟩
  · exact ⟨fun pins s σ H Q I hh => by
      obtain ⟨E, M, Q', sl, rm, h, k⟩ := hh
      exact absurd h.1 hcls⟩
/-! ### a class whose __init__ may raise -/
theorem run_makeX {X : Cx} {k : Nat} {C f : Addr} {fd : FuncData} {ps : List Str} {sp : Sp} {E : XK} {pins : List (Addr × Obj)} {σ : L2.St} {H : Hp} {s : Shared} {Q : VK} {us : List Value} {vs : List V}
    (mk : Mk X.K C f) (F : FnOk X.prog X.w X.K X.mg X.base (L2.CX X.prog X.w) k f fd ps sp) (hr : Room (k + 1) X.A) (hb : Binds X.K fd ps []) (out : PassesAt (L2.CX X.prog X.w) X σ E) (I : Inv X pins σ H s) (r : Vals vs us)
    (h : ∀ x dx, H x = none → H dx = none → dx ≠ x → sp (.ref x :: vs) (upd (upd H dx (.own x)) x (.ins C dx [])) (fun v H2 => v = .non ∧ Q (.ref x) H2) E) : wpAny (model X.prog X.w) X.A (call (.ref C) us) (EP X pins σ Q) X.xe s := by
  generalize hz : s.heap.objs.size = z
  have I2 := Inv.made (C := C) I
  have f0 : H z = none := I.hok.fresh (Nat.le_of_eq hz)
  have f1 : H (z + 1) = none := I.hok.fresh (by rw [hz]; exact Nat.le_succ z)
  have run := h (z + 1) z f1 f0 (Nat.ne_of_lt (Nat.lt_succ_self z))
  have both : Vals (V.ref (z + 1) :: vs) (Value.ref (z + 1) :: us) := .cons rfl r
  have len : (Value.ref (z + 1) :: us).length = ps.length := both.length.symm.trans (F.len _ _ _ _ run)
  subst hz
  refine wpAny_call (make_map (f := f) I.kIn mk.makes mk.init (beq_iff_eq.mp mk.fn) ?_)
  have room := hr.make C us []
  have env := I2.env0.make C us []
  have bound := hb _ (Value.ref (s.heap.objs.size + 1) :: us) I2.kIn (by rw [List.append_nil]; exact len)
  rw [List.append_nil] at bound
  refine codeAny_mono (F.run _ X.stack _ _ ⟨_, []⟩ _ _ _ E room env bound both run) fun res s2 post => ?_
  match res, post with
  | .error e, post => exact out pins _ _ e s2 I2 post
  | .ok (.ret u), post =>
    obtain ⟨v, H', J, rv, ev, q⟩ := I2.after post
    subst ev
    exact ⟨rv, V.ref _, H', J, rfl, q⟩
  | .ok .next, post => exact post.elim
  | .ok .brk, post => exact post.elim
  | .ok .cont, post => exact post.elim
structure CalIX (P : Program) (w : World) (K : PySem.W.Frag) (mg : Str → Option Value) (base : Heap) (k : Nat) (x : Str) (C : Addr) (ps : List Str) (sp : DSp) : Prop where
  ex : ∃ f fd, FnOk P w K mg base (L2.CX P w) k f fd ps (spD K w sp) ∧ Mk K C f ∧ mg x = some (.ref C) ∧ Binds K fd ps []
theorem CalIX.mono {P : Program} {w : World} {K : PySem.W.Frag} {mg : Str → Option Value} {base : Heap} {j k : Nat} {x : Str} {C : Addr} {ps : List Str} {sp : DSp} (c : CalIX P w K mg base j x C ps sp) (h : j ≤ k) : CalIX P w K mg base k x C ps sp :=
  let ⟨f, fd, F, r⟩ := c.ex; ⟨f, fd, F.mono h, r⟩
/-- x = C(..), where the __init__ may raise -/
def dAsgMkX (C : Addr) (sp : DSp) (da : DA) (i : Nat) : DS := fun D E M => da E M fun ds M1 => ∀ x, M1 x = none → sp (.ref x :: ds) (updM M1 x (.ins C [])) (fun v M2 => v = .non ∧ D.nx (E.set i (some (.ref x))) M2) (fun cls d M2 => D.xc cls d E M2)
end DH

set_option Elab.async false
set_option linter.all false
set_option autoImplicit false
set_option maxRecDepth 100000
set_option maxHeartbeats 4000000
/-! Deep readings: a class whose __init__ may raise, the rules; __init__ of own exceptions. -/
namespace DH
open PySem PySem.Spec PyProof.Rows L2
section
variable {X : Cx} {pos cpos p : Pos} {k : Nat} {x : Str} {C : Addr} {ps : List Str} {sp : DSp} {e : Expr} {es : List Expr} {da : DA}
theorem pe_makeX {W : WX} (c : CalIX X.prog X.w X.K X.mg X.base k x C ps sp) (hr : Room (k + 1) X.A) (tk : L2.Takes X W) (ha : RA X (e :: es) da) (hg : Gl X x) (hdb : (x == ("__debug__" : Str)) = false)
    (he : starEach (e :: es) X.env = (false, eval e X.env) :: starEach es X.env) (hpl : (backTo cpos (starEach es X.env)).any (·.1) = false) : PE X (.Call (.Name x p) (e :: es) [] cpos) (fun σ H Q => taD X.K X.w da σ H fun vs H1 => ∀ y dx, H1 y = none → H1 dx = none → dx ≠ y →
      spD X.K X.w sp (.ref y :: vs) (upd (upd H1 dx (.own y)) y (.ins C dx [])) (fun v H2 => v = .non ∧ Q (.ref y) H2) (WE W σ)) := by
  obtain ⟨f, fd, F, mk, hm, hb⟩ := c.ex
  exact ⟨fun pins s σ H Q I h => wpAny_Call_Name_kw (ld_glob I hg hm (PySem.W.callWith_K (h₀ := X.base) I.ok.mod.kin mk.kp (thn (ha.run cpos pins s σ H _ I h) fun us s1 ⟨vs, H1, I1, r, q⟩ => ⟨I1.kIn, run_makeX mk F hr hb (passAt tk σ) I1 r q⟩) he hpl) hdb)⟩
theorem rs_asgMkX {i : Nat} {y : Str} {pos' : Pos} (hN : X.N.Nodup) (hi : X.N[i]? = some y) (hy : Loc X.env.scope y) (c : CalIX X.prog X.w X.K X.mg X.base k x C ps sp) (hr : Room (k + 1) X.A) (ha : RA X (e :: es) da) (hg : Gl X x := by rfl) (hdb : (x == ("__debug__" : Str)) = false := by decide)
    (he : starEach (e :: es) X.env = (false, eval e X.env) :: starEach es X.env := by rfl) (hpl : (backTo cpos (starEach es X.env)).any (·.1) = false := by rfl) (hs : swapsWith (.Call (.Name x p) (e :: es) [] cpos) (some (.Name y pos')) pos.line X.env = pure false := by rfl)
    (hf : X.fn y = true ∨ X.env.scope.names.lookup y = some .local := by first | exact .inl rfl | exact .inr rfl | assumption) : RS X (.Assign [.Name y pos'] (.Call (.Name x p) (e :: es) [] cpos) pos) (dAsgMkX C sp da i) := fun W tk =>
  ps_imp (ps_set hN hi hy (pe_makeX c hr tk ha hg hdb he hpl) hs hf) fun D σ H ⟨E, M, D', sl, rm, h, kn⟩ => ⟨E, M, _, sl, rm, h, fun vs H1 ds M1 t1 rm1 r1 q1 z dx hz hdx hne => by
    have hz1 : upd H1 dx (.own z) z = none := by rw [upd_ne (Ne.symm hne)]; exact hz
    have tm : Tx X.K H1 (upd (upd H1 dx (.own z)) z (.ins C dx [])) := (Tx.new hdx).trans (Tx.new hz1)
    have rm2 := (rm1.keepNew (ho := .own z) hdx).upd (mo := .ins C []) (Tx.new (o := .ins C dx []) hz1) ⟨dx, [], upd_same, .nil⟩
    refine ⟨.ref z :: ds, updM M1 z (.ins C []), _, _, .cons (.ref z) (r1.mono tm), rm2, q1 z (rm1.free hz), fun v H2 d M2 t2 rm3 r2 ⟨e1, q⟩ => ?_, fun cls d H2 M2 t2 rm3 q => kn.xc cls d σ H2 E M2 ((t1.trans tm).trans t2) (((sl.mono t1).mono tm).mono t2) rm3 q⟩
    subst e1
    refine ⟨r2.inv_non, ?_⟩
    have sl2 := ((sl.mono t1).mono tm).mono t2
    exact (ptg_name (pos := pos') (pg_name hN hi hy hf)).to (.ref z) E (fun E' => D'.nx E' M2) (.ref z) σ H2 _ q sl2 (.ref z) fun E' xs sl' q => kn.nx _ _ _ _ ((t1.trans tm).trans t2) sl' rm3 q⟩
end
theorem calix_mk {P : Program} {w : World} {K : PySem.W.Frag} {mg : Str → Option Value} {base : Heap} {x m qual : Str} {st : Stmt} {C f : Addr} {fd : FuncData} {N ps : List Str} {k : Nat} {sp : DSp} {b : DS}
    (F : FunD K m qual (defArgs st) (defBody st) (defScope st) [] [] f fd) (M0 : Mk K C f) (hm : mg x = some (.ref C)) (S : FnScope N ps (defScope st)) (bd : ∀ (kV doc pm : Value) (an : Option Addr) (cdv ct : Value) (us : List Value), us.length = ps.length → bindArgs (PySem.W.fnOf m qual (defArgs st) (defBody st) (defScope st) .none kV doc pm an cdv ct) ⟨us, []⟩ = pure (ps.zip us))
    (hb : ∀ (cdv : Value) (A : Around) (outer : List Env) (s : Shared) (H : Hp) (E : XK), Room k (A.deeper (envOfC qual (defScope st) s.heap.objs.size f cdv)) → RSs (cxOf (L2.CX P w) P w K mg base N qual (defScope st) f cdv A outer s H E) (defBody st) b)
    (len : ∀ ds M Q E, sp ds M Q E → ds.length = ps.length)
    (hq : ∀ ds M Q E, sp ds M Q E → b { nx := fun _ M' => Q .non M', rt := Q, xc := fun cls d _ M' => E cls d M' } (startD N.length ds) M) : CalIX P w K mg base (k + 1) x C ps sp :=
  ⟨f, fd, fn_okX F S len hb hq, M0, hm, F.bindsN bd⟩
/-! ### the __init__ of an own exception: Base.__init__(self, text), self.f = x -/
abbrev rStrAdd : R2 := fun x y H Q => ∃ i j, x = .str i ∧ y = .str j ∧ i.length + j.length ≤ sizeLine ∧ Q (.str (i ++ j)) H
abbrev tStr1 : TE := tCB (fun xs H Q => ∃ i, xs = [.int i] ∧ i.natAbs.log2 < 1920 ∧ Q (.str (toString i)) H) (tCons (tVar 1) tNil)
def tExcInt (K : PySem.W.Frag) (msg f : Str) : TS := tSeq (tDrop (tVeI K (tCons (tVar 0) (tCons (tOp rStrAdd (tC (.str msg)) tStr1) tNil)))) (tOst K f (tVar 0) (tVar 1))
def okNat (v : V) : Prop := ∃ n : Nat, v = .int n ∧ n ≤ 1000
def okNatD (d : D) : Prop := ∃ n : Nat, d = .int n ∧ n ≤ 1000
theorem okNat_rep {K : PySem.W.Frag} {w : World} (H : Hp) (d : D) (v : V) (r : Rep K w H d v) (h : okNatD d) : okNat v := by
  obtain ⟨i, rfl, hl⟩ := h
  exact ⟨i, r.inv_int, hl⟩
theorem str_short : ∀ n : Fin 1001, (((toString ((n.1 : Nat) : Int)) : String) : Str).length ≤ 10 := by decide +kernel
theorem exc_pure {K : PySem.W.Frag} {C : Addr} {msg f a1 a2 : Str} (hm : msg.length ≤ 1000) (vs : List V) (H : Hp) (Q : VK) (E : XK) (h : spExc K C f okNat vs H Q E) : tExcInt K msg f { nx := fun _ H' => Q .non H', rt := Q } (start [a1, a2] vs) H := by
  obtain ⟨a, v, rfl, ⟨n, rfl, hn⟩, T, no, ha, q⟩ := h
  have hs := str_short ⟨n, by omega⟩
  have hlog : ((n : Int).natAbs).log2 < 1920 := by
    rw [Int.natAbs_natCast]
    have := Nat.log2_le_self n
    omega
  refine ⟨V.ref a, rfl, V.int n, rfl, n, rfl, hlog, _, _, rfl, rfl, ?_, a, C, _, rfl, by show 1 ≤ 1000; decide, T, ha, ?_⟩
  · exact Nat.le_of_lt (Nat.lt_of_le_of_lt (Nat.add_le_add hm hs) (by decide))
  · exact ⟨_, rfl, _, rfl, a, C, rfl, T, no, .inl ⟨ha, fun dx hdx hne => q dx hdx hne⟩⟩
theorem exc_mk {P : Program} {w : World} {K : PySem.W.Frag} {mg : Str → Option Value} {base : Heap} {x m qual : Str} {st : Stmt} {C : Addr} {fd : FuncData} {a1 a2 msg f : Str} {k : Nat} (hm : msg.length ≤ 1000) (e : ExcF K C f)
    (F : FunD K m qual (defArgs st) (defBody st) (defScope st) [] [] (He.ma K C "__init__") fd) (S : FnScope [a1, a2] [a1, a2] (defScope st)) (bd : ∀ (kV doc pm : Value) (an : Option Addr) (cdv ct : Value) (us : List Value), us.length = 2 → bindArgs (PySem.W.fnOf m qual (defArgs st) (defBody st) (defScope st) .none kV doc pm an cdv ct) ⟨us, []⟩ = pure ([a1, a2].zip us))
    (hmg : mg x = some (.ref C))
    (hb : ∀ (cdv : Value) (A : Around) (outer : List Env) (s : Shared) (H : Hp) (E : XK), Room k (A.deeper (envOfC qual (defScope st) s.heap.objs.size (He.ma K C "__init__") cdv)) → PSs (cxOf CX0 P w K mg base [a1, a2] qual (defScope st) (He.ma K C "__init__") cdv A outer s H E).nox (defBody st) (tExcInt K msg f)) : CalE P w K mg base (k + 1) x C f okNat := by
  refine ⟨_, fd, [a1, a2], F.ok S (fun vs H Q E h => ?_) (fun cdv A outer s H vs Q E hr h => ⟨_, (hb cdv A outer s H E hr).nox, exc_pure hm vs H Q E h⟩), e.init, e.ty, F.bindsN bd, hmg, e.T, e.no⟩
  obtain ⟨a, v, rfl, _⟩ := h
  rfl
end DH

set_option Elab.async false
set_option linter.all false
set_option autoImplicit false
set_option maxRecDepth 100000
set_option maxHeartbeats 2000000
/-! Deep readings: facts of caught exceptions, from the head. -/
namespace DH
open PySem PySem.Spec PyProof.Rows L2
def exccB (K : PySem.W.Frag) (D : Addr) : Bool := He.eqO (PySem.W.findIn K (.ref D) "__getattribute__") (some (some (.builtin "BaseException.__getattribute__"))) && (He.eqO (PySem.W.findIn K (.ref D) "__getattr__") (some none) && (decide (PySem.W.subIn K (.ref D) (.type "BaseException") = some true) && (PySem.W.hasDictIn K D &&
  (He.eqO (PySem.W.findIn K (.ref D) "__class__") (some (some (.builtin "object.__class__"))) && (He.eqO (PySem.W.specialIn K (.builtin "object.__class__") "__get__") (some (some (.builtin "getset_descriptor.__get__"))) && (decide (PySem.W.takesIn K (.builtin "object.__class__") = some true) && decide (PySem.W.mroIn K D (.type "object") = some true)))))))
theorem exccB_ok {K : PySem.W.Frag} {D : Addr} (h : exccB K D = true) : ExcC K D := by
  unfold exccB at h
  simp only [Bool.and_eq_true, decide_eq_true_eq] at h
  obtain ⟨h1, h2, h3, h4, h5, h6, h7, h8⟩ := h
  exact ⟨He.eqO_ok h1, He.eqO_ok h2, h3, h4, He.eqO_ok h5, He.eqO_ok h6, h7, h8⟩
/-- all that is asked of an exception class that is caught -/
structure XcF (K : PySem.W.Frag) (C : Addr) (f : Str) : Prop where
  xf : XfC K C
  ec : ExcC K C
  no : PySem.W.findIn K (.ref C) f = some none
def xcB (K : PySem.W.Frag) (C : Addr) (f : Str) : Bool := xfB K C && (exccB K C && He.eqO (PySem.W.findIn K (.ref C) f) (some none))
theorem xcB_ok {K : PySem.W.Frag} {C : Addr} {f : Str} (h : xcB K C f = true) : XcF K C f := by
  unfold xcB at h
  simp only [Bool.and_eq_true] at h
  obtain ⟨h1, h2, h3⟩ := h
  exact ⟨xfB_ok h1, exccB_ok h2, He.eqO_ok h3⟩
/-! ### a Hook that sees the interpreter's own statics too -/
def asY (g : Addr → Option Obj) (n : Nat) : List Addr := He.asD g n ++ [cStatics]
def obsY (n : Nat) (fa : List He.Fa) (fn : List He.DefD) (ts : List He.Tab) (ex : PySem.W.Frag → Bool) (g : Addr → Option Obj) : He.AlX := (He.obsT fa fn ts (He.frT g (asY g n)), ex (He.frT g (asY g n)))
def hookY (n : Nat) (fa : List He.Fa) (fn : List He.DefD) (ts : List He.Tab) (ex : PySem.W.Frag → Bool) : PySem.W.Hook where
  α := He.AlX
  obs := fun s => obsY n fa fn ts ex s.heap.get?
  val := fun w => He.valX fn ts w
  says := fun w h => ∃ K : PySem.W.Frag, K.In h ∧ He.SaysX fa fn ts [] ex w h K
  of := fun w s e => ⟨_, He.frT_in, ⟨congrArg (fun z : He.AlX => z.1) e, congrArg (fun z : He.AlX => z.2) e, fun _ h => by simp at h, fun _ h => by simp at h, fun _ h => by simp at h⟩⟩
  keeps := fun _ _ _ ⟨K, hK, c⟩ k => ⟨K, PySem.W.Frag.In.keeps hK k, ⟨c.t, c.more, c.hd, c.out, fun p hp => k _ _ (c.empty p hp)⟩⟩
theorem obsY_eq {n : Nat} {fa : List He.Fa} {fn : List He.DefD} {ts : List He.Tab} {ex : PySem.W.Frag → Bool} {g : Addr → Option Obj} {s : Shared} (h : ∀ a, g a = s.heap.get? a) : obsY n fa fn ts ex g = (hookY n fa fn ts ex).obs s := by
  have e : g = s.heap.get? := funext h
  rw [e] <;> rfl
def oB (o : Option Bool) (b : Bool) : Bool := decide (o = some b)
theorem oB_ok {o : Option Bool} {b : Bool} (h : oB o b = true) : o = some b := of_decide_eq_true h
end DH

set_option Elab.async false
set_option linter.all false
set_option autoImplicit false
set_option maxRecDepth 100000
set_option maxHeartbeats 4000000
/-! the bodies of the defs as deep terms: printed by gen.py -/
namespace Bd
open PySem PySem.Spec PyProof.Rows L2 DH
def kv_ARITY : List (Str × D) := [("not", .int 1), ("neg", .int 1), ("and", .int 2), ("or", .int 2), ("xor", .int 2), ("add", .int 2), ("sub", .int 2), ("mul", .int 2), ("shl", .int 2), ("shr", .int 2), ("eq", .int 2), ("lt", .int 2), ("slt", .int 2), ("pick", .int 3)]
/-! word_limit: width 0, -/
def b_word_limit : DS := dRet (dOp oShl (dC (.int 1)) (dVar 0))
/-! signed_value: width 0, word 1, calls word_limit -/
def b_signed_value (s_word_limit : DSp) : DS := dSeq (dIf (dtB (dOp oGe (dVar 1) (dOp oFdiv (dCall s_word_limit (dCons (dVar 0) (dNil))) (dC (.int 2))))) (dRet (dOp oSub (dVar 1) (dCall s_word_limit (dCons (dVar 0) (dNil))))) (dNext)) (dRet (dVar 1))
/-! operate_one: name 0, width 1, word 2, calls word_limit -/
def b_operate_one (s_word_limit : DSp) : DS := dSeq (dIf (dtB (dOp oEq (dVar 0) (dC (.str "not")))) (dRet (dOp oSub (dOp oSub (dCall s_word_limit (dCons (dVar 1) (dNil))) (dC (.int 1))) (dVar 2))) (dNext)) (dRet (dOp oAnd (dOp oSub (dCall s_word_limit (dCons (dVar 1) (dNil))) (dVar 2)) (dOp oSub (dCall s_word_limit (dCons (dVar 1) (dNil))) (dC (.int 1)))))
/-! operate_bits: name 0, one 1, other 2, -/
def b_operate_bits : DS := dSeq (dIf (dtB (dOp oEq (dVar 0) (dC (.str "and")))) (dRet (dOp oAnd (dVar 1) (dVar 2))) (dNext)) (dSeq (dIf (dtB (dOp oEq (dVar 0) (dC (.str "or")))) (dRet (dOp oOr (dVar 1) (dVar 2))) (dNext)) (dRet (dOp oXor (dVar 1) (dVar 2))))
/-! operate_sum: name 0, width 1, one 2, other 3, mask 4, calls word_limit -/
def b_operate_sum (s_word_limit : DSp) : DS := dSeq (dAsg (dOp oSub (dCall s_word_limit (dCons (dVar 1) (dNil))) (dC (.int 1))) (.nm 4)) (dSeq (dIf (dtB (dOp oEq (dVar 0) (dC (.str "add")))) (dRet (dOp oAnd (dOp oAdd (dVar 2) (dVar 3)) (dVar 4))) (dNext)) (dSeq (dIf (dtB (dOp oEq (dVar 0) (dC (.str "sub")))) (dRet (dOp oAnd (dOp oSub (dVar 2) (dVar 3)) (dVar 4))) (dNext)) (dSeq (dIf (dtB (dOp oEq (dVar 0) (dC (.str "mul")))) (dRet (dOp oAnd (dOp oMul (dVar 2) (dVar 3)) (dVar 4))) (dNext)) (dSeq (dIf (dtB (dOp oEq (dVar 0) (dC (.str "shl")))) (dRet (dOp oAnd (dOp oShl (dVar 2) (dVar 3)) (dVar 4))) (dNext)) (dRet (dOp oShr (dVar 2) (dVar 3)))))))
/-! operate_order: name 0, width 1, one 2, other 3, calls signed_value -/
def b_operate_order (s_signed_value : DSp) : DS := dSeq (dIf (dtB (dOp oEq (dVar 0) (dC (.str "eq")))) (dRet (dL oInt1 (dCons (dOp oEq (dVar 2) (dVar 3)) (dNil)))) (dNext)) (dSeq (dIf (dtB (dOp oEq (dVar 0) (dC (.str "lt")))) (dRet (dL oInt1 (dCons (dOp oLt (dVar 2) (dVar 3)) (dNil)))) (dNext)) (dRet (dL oInt1 (dCons (dOp oLt (dCall s_signed_value (dCons (dVar 1) (dCons (dVar 2) (dNil)))) (dCall s_signed_value (dCons (dVar 1) (dCons (dVar 3) (dNil))))) (dNil)))))
/-! operate: name 0, width 1, args 2, calls operate_one operate_bits operate_order operate_sum -/
def b_operate (s_operate_one s_operate_bits s_operate_order s_operate_sum : DSp) : DS := dSeq (dIf (dtB (dOp oEq (dVar 0) (dC (.str "pick")))) (dSeq (dIf (dtB (dOp oNe (dOp oIx (dVar 2) (dC (.int 0))) (dC (.int 0)))) (dRet (dOp oIx (dVar 2) (dC (.int 1)))) (dNext)) (dRet (dOp oIx (dVar 2) (dC (.int 2))))) (dNext)) (dSeq (dIf (dtB (dOp oEq (dL oLen (dCons (dVar 2) (dNil))) (dC (.int 1)))) (dRet (dCall s_operate_one (dCons (dVar 0) (dCons (dVar 1) (dCons (dOp oIx (dVar 2) (dC (.int 0))) (dNil)))))) (dNext)) (dSeq (dIf (dtB (dOp (oIn false) (dVar 0) (dTup (dCons (dC (.str "and")) (dCons (dC (.str "or")) (dCons (dC (.str "xor")) (dNil))))))) (dRet (dCall s_operate_bits (dCons (dVar 0) (dCons (dOp oIx (dVar 2) (dC (.int 0))) (dCons (dOp oIx (dVar 2) (dC (.int 1))) (dNil)))))) (dNext)) (dSeq (dIf (dtB (dOp (oIn false) (dVar 0) (dTup (dCons (dC (.str "eq")) (dCons (dC (.str "lt")) (dCons (dC (.str "slt")) (dNil))))))) (dRet (dCall s_operate_order (dCons (dVar 0) (dCons (dVar 1) (dCons (dOp oIx (dVar 2) (dC (.int 0))) (dCons (dOp oIx (dVar 2) (dC (.int 1))) (dNil))))))) (dNext)) (dRet (dCall s_operate_sum (dCons (dVar 0) (dCons (dVar 1) (dCons (dOp oIx (dVar 2) (dC (.int 0))) (dCons (dOp oIx (dVar 2) (dC (.int 1))) (dNil))))))))))
/-! all_rows: width 0, many 1, rows 2, _ 3, row 4, word 5, calls word_limit -/
def b_all_rows (s_word_limit : DSp) : DS := dSeq (dAsg (dLst (dCons (dTup (dNil)) (dNil))) (.nm 2)) (dSeq (dFor (dRng1 (dCons (dVar 1) (dNil))) (.nm 3) (dAsg (dLc2 (dIter (dVar 2)) (.nm 4) dYes (dRng1 (dCons (dCall s_word_limit (dCons (dVar 0) (dNil))) (dNil))) (.nm 5) dYes (dOp oAdd (dVar 4) (dTup (dCons (dVar 5) (dNil)))) [4, 5] [5]) (.nm 2))) (dRet (dVar 2)))
/-! is_name: name 0, char 1, -/
def b_is_name : DS := dSeq (dIf (dtOr (dtNot (dtB (dChain oLe oLe (dC (.int 1)) (dL oLen (dCons (dVar 0) (dNil))) (dC (.int 6))))) (dtB (dOp (oIn true) (dOp oIx (dVar 0) (dC (.int 0))) (dC (.str "abcdefghijklmnopqrstuvwxyz"))))) (dRet (dC (.bl false))) (dNext)) (dSeq (dFor (dIter (dVar 0)) (.nm 1) (dIf (dtAnd (dtB (dOp (oIn true) (dVar 1) (dC (.str "abcdefghijklmnopqrstuvwxyz")))) (dtB (dOp (oIn true) (dVar 1) (dC (.str "0123456789"))))) (dRet (dC (.bl false))) (dNext))) (dRet (dC (.bl true))))
/-! is_value_name: name 0, calls is_name -/
def b_is_value_name (s_is_name : DSp) : DS := dRet (dAndV (dCall s_is_name (dCons (dVar 0) (dNil))) (dOp (oIn true) (dVar 0) (dC (.kd kv_ARITY))))
/-! formula_size: formula 0, total 1, part 2, calls formula_size -/
def b_formula_size (s_formula_size : DSp) : DS := dSeq (dIf (dtE (dIs [.int, .str] (dVar 0))) (dRet (dC (.int 1))) (dNext)) (dSeq (dAsg (dC (.int 1)) (.nm 1)) (dSeq (dFor (dIter (dSl (dVar 0) (dPart (dC (.int 1))) dNoPart)) (.nm 2) (dAsg (dOp oAdd (dVar 1) (dCall s_formula_size (dCons (dVar 2) (dNil)))) (.nm 1))) (dRet (dVar 1))))
/-! formula_depth: formula 0, deepest 1, part 2, calls formula_depth -/
def b_formula_depth (s_formula_depth : DSp) : DS := dSeq (dIf (dtE (dIs [.int, .str] (dVar 0))) (dRet (dC (.int 0))) (dNext)) (dSeq (dAsg (dC (.int 0)) (.nm 1)) (dSeq (dFor (dIter (dSl (dVar 0) (dPart (dC (.int 1))) dNoPart)) (.nm 2) (dAsg (dL oMax2 (dCons (dVar 1) (dCons (dCall s_formula_depth (dCons (dVar 2) (dNil))) (dNil)))) (.nm 1))) (dRet (dOp oAdd (dVar 1) (dC (.int 1))))))
/-! is_shaped: formula 0, width 1, names 2, depth 3, part 4, calls word_limit is_shaped -/
def b_is_shaped (s_word_limit s_is_shaped : DSp) : DS := dSeq (dIf (dtE (dIs [.int] (dVar 0))) (dRet (dChain oLe oLt (dC (.int 0)) (dVar 0) (dCall s_word_limit (dCons (dVar 1) (dNil))))) (dNext)) (dSeq (dIf (dtE (dIs [.str] (dVar 0))) (dRet (dOp (oIn false) (dVar 0) (dVar 2))) (dNext)) (dSeq (dIf (dtOr (dtB (dOp oEq (dVar 3) (dC (.int 0)))) (dtOr (dtB (dOp oEq (dL oLen (dCons (dVar 0) (dNil))) (dC (.int 0)))) (dtNot (dtE (dIs [.str] (dOp oIx (dVar 0) (dC (.int 0)))))))) (dRet (dC (.bl false))) (dNext)) (dSeq (dIf (dtOr (dtB (dOp (oIn true) (dOp oIx (dVar 0) (dC (.int 0))) (dC (.kd kv_ARITY)))) (dtB (dOp oNe (dL oLen (dCons (dVar 0) (dNil))) (dOp oAdd (dC (.int 1)) (dOp oIx (dC (.kd kv_ARITY)) (dOp oIx (dVar 0) (dC (.int 0)))))))) (dRet (dC (.bl false))) (dNext)) (dSeq (dFor (dIter (dSl (dVar 0) (dPart (dC (.int 1))) dNoPart)) (.nm 4) (dIf (dtNot (dtE (dCall s_is_shaped (dCons (dVar 4) (dCons (dVar 1) (dCons (dVar 2) (dCons (dOp oSub (dVar 3) (dC (.int 1))) (dNil)))))))) (dRet (dC (.bl false))) (dNext))) (dRet (dC (.bl true)))))))
/-! is_formula: formula 0, width 1, names 2, most 3, calls is_shaped formula_size -/
def b_is_formula (s_is_shaped s_formula_size : DSp) : DS := dRet (dAndV (dCall s_is_shaped (dCons (dVar 0) (dCons (dVar 1) (dCons (dVar 2) (dCons (dC (.int 6)) (dNil)))))) (dOp oLe (dCall s_formula_size (dCons (dVar 0) (dNil))) (dVar 3)))
/-! formula_names: formula 0, found 1, part 2, name 3, calls formula_names -/
def b_formula_names (s_formula_names : DSp) : DS := dSeq (dIf (dtE (dIs [.int] (dVar 0))) (dRet (dLst (dNil))) (dNext)) (dSeq (dIf (dtE (dIs [.str] (dVar 0))) (dRet (dLst (dCons (dVar 0) (dNil)))) (dNext)) (dSeq (dAsg (dLst (dNil)) (.nm 1)) (dSeq (dFor (dIter (dSl (dVar 0) (dPart (dC (.int 1))) dNoPart)) (.nm 2) (dFor (dIter (dCall s_formula_names (dCons (dVar 2) (dNil)))) (.nm 3) (dIf (dtB (dOp (oIn true) (dVar 3) (dVar 1))) (dDrop (dApp (dVar 1) (dVar 3))) (dNext)))) (dRet (dVar 1)))))
/-! formula_value: formula 0, width 1, env 2, args 3, part 4, calls formula_value operate -/
def b_formula_value (s_formula_value s_operate : DSp) : DS := dSeq (dIf (dtE (dIs [.int] (dVar 0))) (dRet (dVar 0)) (dNext)) (dSeq (dIf (dtE (dIs [.str] (dVar 0))) (dRet (dOp oIx (dVar 2) (dVar 0))) (dNext)) (dSeq (dAsg (dLst (dNil)) (.nm 3)) (dSeq (dFor (dIter (dSl (dVar 0) (dPart (dC (.int 1))) dNoPart)) (.nm 4) (dDrop (dApp (dVar 3) (dCall s_formula_value (dCons (dVar 4) (dCons (dVar 1) (dCons (dVar 2) (dNil)))))))) (dRet (dCall s_operate (dCons (dOp oIx (dVar 0) (dC (.int 0))) (dCons (dVar 1) (dCons (dVar 3) (dNil)))))))))
/-! put_in: formula 0, env 1, parts 2, part 3, calls put_in -/
def b_put_in (s_put_in : DSp) : DS := dSeq (dIf (dtE (dIs [.int] (dVar 0))) (dRet (dVar 0)) (dNext)) (dSeq (dIf (dtE (dIs [.str] (dVar 0))) (dRet (dGet2 (dVar 1) (dVar 0) (dVar 0))) (dNext)) (dSeq (dAsg (dLst (dCons (dOp oIx (dVar 0) (dC (.int 0))) (dNil))) (.nm 2)) (dSeq (dFor (dIter (dSl (dVar 0) (dPart (dC (.int 1))) dNoPart)) (.nm 3) (dDrop (dApp (dVar 2) (dCall s_put_in (dCons (dVar 3) (dCons (dVar 1) (dNil))))))) (dRet (dL oTuple (dCons (dVar 2) (dNil)))))))
/-! _law_mix: number 0, k 1, -/
def b__law_mix : DS := dSeq (dAsg (dOp oMod (dOp oAdd (dOp oAdd (dOp oMul (dL oInt1 (dCons (dVar 0) (dNil))) (dC (.int 48271))) (dOp oMul (dVar 1) (dC (.int 69621)))) (dC (.int 12345))) (dC (.int 2147483647))) (.nm 0)) (dRet (dOp oMod (dOp oAdd (dOp oAdd (dOp oMul (dVar 0) (dC (.int 40692))) (dOp oMul (dVar 1) (dC (.int 52774)))) (dC (.int 7))) (dC (.int 2147483399))))
/-! _law_stream: script 0, many 1, numbers 2, last 3, k 4, cell 5, j 6, calls _law_mix -/
def b__law_stream (s__law_mix : DSp) : DS := dSeq (dAsg (dLst (dNil)) (.nm 2)) (dSeq (dAsg (dC (.int 1)) (.nm 3)) (dSeq (dFor (dRng1 (dCons (dL oMin2 (dCons (dC (.int 63)) (dCons (dL oLen (dCons (dVar 0) (dNil))) (dNil)))) (dNil))) (.nm 4) (dSeq (dAsg (dL oAbs (dCons (dL oInt1 (dCons (dOp oIx (dVar 0) (dVar 4)) (dNil))) (dNil))) (.nm 5)) (dSeq (dAsg (dCall s__law_mix (dCons (dOp oAdd (dVar 3) (dOp oMod (dVar 5) (dC (.int 2147483647)))) (dCons (dVar 4) (dNil)))) (.nm 3)) (dIf (dtB (dOp oGe (dVar 5) (dOp oPow (dC (.int 10)) (dC (.int 18))))) (dFor (dRng1 (dCons (dC (.int 40)) (dNil))) (.nm 6) (dIf (dtB (dOp oGt (dVar 5) (dC (.int 0)))) (dSeq (dDrop (dApp (dVar 2) (dOp oMod (dVar 5) (dC (.int 1009))))) (dAsg (dOp oFdiv (dVar 5) (dC (.int 1009))) (.nm 5))) (dNext))) (dDrop (dApp (dVar 2) (dOp oMod (dCall s__law_mix (dCons (dVar 5) (dCons (dVar 4) (dNil)))) (dC (.int 1009))))))))) (dSeq (dFor (dRng1 (dCons (dVar 1) (dNil))) (.nm 4) (dIf (dtB (dOp oLt (dL oLen (dCons (dVar 2) (dNil))) (dVar 1))) (dSeq (dAsg (dCall s__law_mix (dCons (dVar 3) (dCons (dL oLen (dCons (dVar 2) (dNil))) (dNil)))) (.nm 3)) (dDrop (dApp (dVar 2) (dOp oMod (dVar 3) (dC (.int 1009)))))) (dNext))) (dRet (dVar 2)))))
/-! _law_take: numbers 0, cursor 1, many 2, number 3, -/
def b__law_take : DS := dSeq (dAsg (dOp oIx (dVar 0) (dOp oMod (dOp oIx (dVar 1) (dC (.int 0))) (dL oLen (dCons (dVar 0) (dNil))))) (.nm 3)) (dSeq (dSetIx (dOp oAdd (dOp oIx (dVar 1) (dC (.int 0))) (dC (.int 1))) (dVar 1) (dC (.int 0))) (dRet (dOp oMod (dL oInt1 (dCons (dVar 3) (dNil))) (dVar 2))))
/-! _law_arity: word 0, -/
def b__law_arity : DS := dSeq (dIf (dtB (dOp (oIn false) (dVar 0) (dLst (dCons (dC (.str "not")) (dCons (dC (.str "neg")) (dNil)))))) (dRet (dC (.int 1))) (dNext)) (dSeq (dIf (dtB (dOp oEq (dVar 0) (dC (.str "pick")))) (dRet (dC (.int 3))) (dNext)) (dRet (dC (.int 2))))
/-! _law_formula: numbers 0, cursor 1, names 2, width 3, depth 4, words 5, word 6, parts 7, k 8, calls _law_take _law_arity _law_formula -/
def b__law_formula (s__law_take s__law_arity s__law_formula : DSp) : DS := dSeq (dAsg (dLst (dCons (dC (.str "not")) (dCons (dC (.str "neg")) (dCons (dC (.str "and")) (dCons (dC (.str "or")) (dCons (dC (.str "xor")) (dCons (dC (.str "add")) (dCons (dC (.str "sub")) (dCons (dC (.str "mul")) (dCons (dC (.str "shl")) (dCons (dC (.str "shr")) (dCons (dC (.str "eq")) (dCons (dC (.str "lt")) (dCons (dC (.str "slt")) (dCons (dC (.str "pick")) (dNil)))))))))))))))) (.nm 5)) (dSeq (dIf (dtOr (dtB (dOp oEq (dVar 4) (dC (.int 0)))) (dtB (dOp oEq (dCall s__law_take (dCons (dVar 0) (dCons (dVar 1) (dCons (dC (.int 4)) (dNil))))) (dC (.int 0))))) (dSeq (dIf (dtAnd (dtB (dOp oGt (dL oLen (dCons (dVar 2) (dNil))) (dC (.int 0)))) (dtB (dOp oGt (dCall s__law_take (dCons (dVar 0) (dCons (dVar 1) (dCons (dC (.int 4)) (dNil))))) (dC (.int 0))))) (dRet (dOp oIx (dVar 2) (dCall s__law_take (dCons (dVar 0) (dCons (dVar 1) (dCons (dL oLen (dCons (dVar 2) (dNil))) (dNil))))))) (dNext)) (dRet (dCall s__law_take (dCons (dVar 0) (dCons (dVar 1) (dCons (dOp oShl (dC (.int 1)) (dVar 3)) (dNil))))))) (dNext)) (dSeq (dAsg (dOp oIx (dVar 5) (dCall s__law_take (dCons (dVar 0) (dCons (dVar 1) (dCons (dC (.int 14)) (dNil)))))) (.nm 6)) (dSeq (dAsg (dLst (dCons (dVar 6) (dNil))) (.nm 7)) (dSeq (dFor (dRng1 (dCons (dCall s__law_arity (dCons (dVar 6) (dNil))) (dNil))) (.nm 8) (dDrop (dApp (dVar 7) (dCall s__law_formula (dCons (dVar 0) (dCons (dVar 1) (dCons (dVar 2) (dCons (dVar 3) (dCons (dOp oSub (dVar 4) (dC (.int 1))) (dNil)))))))))) (dRet (dL oTuple (dCons (dVar 7) (dNil))))))))
/-! _law_two: word 0, width 1, one 2, other 3, limit 4, -/
def b__law_two : DS := dSeq (dAsg (dOp oShl (dC (.int 1)) (dVar 1)) (.nm 4)) (dSeq (dIf (dtB (dOp oEq (dVar 0) (dC (.str "and")))) (dRet (dOp oAnd (dVar 2) (dVar 3))) (dNext)) (dSeq (dIf (dtB (dOp oEq (dVar 0) (dC (.str "or")))) (dRet (dOp oOr (dVar 2) (dVar 3))) (dNext)) (dSeq (dIf (dtB (dOp oEq (dVar 0) (dC (.str "xor")))) (dRet (dOp oXor (dVar 2) (dVar 3))) (dNext)) (dSeq (dIf (dtB (dOp oEq (dVar 0) (dC (.str "add")))) (dRet (dOp oMod (dL oInt1 (dCons (dOp oAdd (dVar 2) (dVar 3)) (dNil))) (dVar 4))) (dNext)) (dSeq (dIf (dtB (dOp oEq (dVar 0) (dC (.str "sub")))) (dRet (dOp oMod (dL oInt1 (dCons (dOp oSub (dVar 2) (dVar 3)) (dNil))) (dVar 4))) (dNext)) (dSeq (dIf (dtB (dOp oEq (dVar 0) (dC (.str "mul")))) (dRet (dOp oMod (dL oInt1 (dCons (dOp oMul (dVar 2) (dVar 3)) (dNil))) (dVar 4))) (dNext)) (dSeq (dIf (dtB (dOp oEq (dVar 0) (dC (.str "shl")))) (dRet (dOp oMod (dL oInt1 (dCons (dOp oShl (dVar 2) (dVar 3)) (dNil))) (dVar 4))) (dNext)) (dSeq (dIf (dtB (dOp oEq (dVar 0) (dC (.str "shr")))) (dRet (dOp oShr (dVar 2) (dVar 3))) (dNext)) (dSeq (dIf (dtB (dOp oEq (dVar 0) (dC (.str "eq")))) (dRet (dL oInt1 (dCons (dOp oEq (dVar 2) (dVar 3)) (dNil)))) (dNext)) (dSeq (dIf (dtB (dOp oEq (dVar 0) (dC (.str "lt")))) (dRet (dL oInt1 (dCons (dOp oLt (dVar 2) (dVar 3)) (dNil)))) (dNext)) (dRet (dL oInt1 (dCons (dOp oLt (dOp oMod (dL oInt1 (dCons (dOp oAdd (dVar 2) (dOp oFdiv (dVar 4) (dC (.int 2)))) (dNil))) (dVar 4)) (dOp oMod (dL oInt1 (dCons (dOp oAdd (dVar 3) (dOp oFdiv (dVar 4) (dC (.int 2)))) (dNil))) (dVar 4))) (dNil))))))))))))))
/-! _law_value: formula 0, width 1, env 2, parts 3, part 4, calls _law_value _law_two -/
def b__law_value (s__law_value s__law_two : DSp) : DS := dSeq (dIf (dtE (dIs [.int] (dVar 0))) (dRet (dVar 0)) (dNext)) (dSeq (dIf (dtE (dIs [.str] (dVar 0))) (dRet (dOp oIx (dVar 2) (dVar 0))) (dNext)) (dSeq (dAsg (dLc (dIter (dSl (dVar 0) (dPart (dC (.int 1))) dNoPart)) (.nm 4) dYes (dCall s__law_value (dCons (dVar 4) (dCons (dVar 1) (dCons (dVar 2) (dNil))))) [4]) (.nm 3)) (dSeq (dIf (dtB (dOp oEq (dOp oIx (dVar 0) (dC (.int 0))) (dC (.str "not")))) (dRet (dOp oSub (dOp oSub (dOp oShl (dC (.int 1)) (dVar 1)) (dC (.int 1))) (dOp oIx (dVar 3) (dC (.int 0))))) (dNext)) (dSeq (dIf (dtB (dOp oEq (dOp oIx (dVar 0) (dC (.int 0))) (dC (.str "neg")))) (dRet (dOp oMod (dL oInt1 (dCons (dOp oSub (dC (.int 0)) (dOp oIx (dVar 3) (dC (.int 0)))) (dNil))) (dOp oShl (dC (.int 1)) (dVar 1)))) (dNext)) (dSeq (dIf (dtB (dOp oEq (dOp oIx (dVar 0) (dC (.int 0))) (dC (.str "pick")))) (dRet (dOp oIx (dVar 3) (dOp oAdd (dC (.int 1)) (dL oInt1 (dCons (dOp oEq (dOp oIx (dVar 3) (dC (.int 0))) (dC (.int 0))) (dNil)))))) (dNext)) (dRet (dCall s__law_two (dCons (dOp oIx (dVar 0) (dC (.int 0))) (dCons (dVar 1) (dCons (dOp oIx (dVar 3) (dC (.int 0))) (dCons (dOp oIx (dVar 3) (dC (.int 1))) (dNil))))))))))))
/-! _law_size: formula 0, part 1, calls _law_size -/
def b__law_size (s__law_size : DSp) : DS := dSeq (dIf (dtE (dIs [.int, .str] (dVar 0))) (dRet (dC (.int 1))) (dNext)) (dRet (dOp oAdd (dC (.int 1)) (dL oSumL (dCons (dLc (dIter (dSl (dVar 0) (dPart (dC (.int 1))) dNoPart)) (.nm 1) dYes (dCall s__law_size (dCons (dVar 1) (dNil))) [1]) (dNil)))))
/-! _law_depth: formula 0, part 1, calls _law_depth -/
def b__law_depth (s__law_depth : DSp) : DS := dSeq (dIf (dtE (dIs [.int, .str] (dVar 0))) (dRet (dC (.int 0))) (dNext)) (dRet (dOp oAdd (dC (.int 1)) (dL oMaxL (dCons (dLc (dIter (dSl (dVar 0) (dPart (dC (.int 1))) dNoPart)) (.nm 1) dYes (dCall s__law_depth (dCons (dVar 1) (dNil))) [1]) (dNil)))))
/-! _law_names: formula 0, found 1, part 2, name 3, calls _law_names -/
def b__law_names (s__law_names : DSp) : DS := dSeq (dIf (dtE (dIs [.str] (dVar 0))) (dRet (dLst (dCons (dVar 0) (dNil)))) (dNext)) (dSeq (dAsg (dLst (dNil)) (.nm 1)) (dSeq (dIf (dtE (dIs [.tup] (dVar 0))) (dFor (dIter (dSl (dVar 0) (dPart (dC (.int 1))) dNoPart)) (.nm 2) (dAsg (dOp oAdd (dVar 1) (dLc (dIter (dCall s__law_names (dCons (dVar 2) (dNil)))) (.nm 3) (dtB (dOp (oIn true) (dVar 3) (dVar 1))) (dVar 3) [3])) (.nm 1))) (dNext)) (dRet (dVar 1))))
/-! _law_put: formula 0, env 1, part 2, calls _law_put -/
def b__law_put (s__law_put : DSp) : DS := dSeq (dIf (dtE (dIs [.int] (dVar 0))) (dRet (dVar 0)) (dNext)) (dSeq (dIf (dtE (dIs [.str] (dVar 0))) (dSeq (dIf (dtB (dOp (oIn false) (dVar 0) (dVar 1))) (dRet (dOp oIx (dVar 1) (dVar 0))) (dNext)) (dRet (dVar 0))) (dNext)) (dRet (dL oTuple (dCons (dOp oAdd (dLst (dCons (dOp oIx (dVar 0) (dC (.int 0))) (dNil))) (dLc (dIter (dSl (dVar 0) (dPart (dC (.int 1))) dNoPart)) (.nm 2) dYes (dCall s__law_put (dCons (dVar 2) (dCons (dVar 1) (dNil)))) [2])) (dNil)))))
/-! _law_is_whole: told 0, due 1, -/
def b__law_is_whole : DS := dRet (dAndV (dIs [.int] (dVar 0)) (dAndV (dNotV (dIs [.bl] (dVar 0))) (dOp oEq (dVar 0) (dVar 1))))
/-! _law_truth: told 0, due 1, -/
def b__law_truth : DS := dRet (dAndV (dIs [.bl] (dVar 0)) (dOp oEq (dVar 0) (dVar 1)))
/-! _law_operations: numbers 0, cursor 1, width 2, words 3, word 4, many 5, args 6, k 7, env 8, due 9, calls _law_arity _law_is_whole _law_take _law_value operate signed_value -/
def b__law_operations (s__law_arity s__law_is_whole s__law_take s__law_value s_operate s_signed_value : DSp) : DS := dSeq (dAsg (dLst (dCons (dC (.str "not")) (dCons (dC (.str "neg")) (dCons (dC (.str "and")) (dCons (dC (.str "or")) (dCons (dC (.str "xor")) (dCons (dC (.str "add")) (dCons (dC (.str "sub")) (dCons (dC (.str "mul")) (dCons (dC (.str "shl")) (dCons (dC (.str "shr")) (dCons (dC (.str "eq")) (dCons (dC (.str "lt")) (dCons (dC (.str "slt")) (dCons (dC (.str "pick")) (dNil)))))))))))))))) (.nm 3)) (dSeq (dIf (dtB (dOp oNe (dL oLen (dCons (dC (.kd kv_ARITY)) (dNil))) (dC (.int 14)))) (dRet (dC (.bl false))) (dNext)) (dSeq (dFor (dIter (dVar 3)) (.nm 4) (dSeq (dAsg (dCall s__law_arity (dCons (dVar 4) (dNil))) (.nm 5)) (dSeq (dIf (dtNot (dtE (dCall s__law_is_whole (dCons (dOp oIx (dC (.kd kv_ARITY)) (dVar 4)) (dCons (dVar 5) (dNil)))))) (dRet (dC (.bl false))) (dNext)) (dSeq (dAsg (dLc (dRng1 (dCons (dVar 5) (dNil))) (.nm 7) dYes (dCall s__law_take (dCons (dVar 0) (dCons (dVar 1) (dCons (dOp oShl (dC (.int 1)) (dVar 2)) (dNil))))) [7]) (.nm 6)) (dSeq (dAsg (dDisp [(dC (.str "p"), dOp oIx (dVar 6) (dC (.int 0))), (dC (.str "q"), dOp oIx (dVar 6) (dUn oNeg (dC (.int 1)))), (dC (.str "r"), dOp oIx (dVar 6) (dOp oFdiv (dVar 5) (dC (.int 2))))]) (.nm 8)) (dSeq (dAsg (dCall s__law_value (dCons (dL oTuple (dCons (dOp oAdd (dLst (dCons (dVar 4) (dNil))) (dLc (dRng1 (dCons (dVar 5) (dNil))) (.nm 7) dYes (dOp oIx (dC (.str "prq")) (dOp oFdiv (dOp oMul (dC (.int 2)) (dVar 7)) (dL oMax2 (dCons (dC (.int 1)) (dCons (dOp oSub (dVar 5) (dC (.int 1))) (dNil)))))) [7])) (dNil))) (dCons (dVar 2) (dCons (dVar 8) (dNil))))) (.nm 9)) (dSeq (dIf (dtNot (dtE (dCall s__law_is_whole (dCons (dCall s_operate (dCons (dVar 4) (dCons (dVar 2) (dCons (dL oList (dCons (dVar 6) (dNil))) (dNil))))) (dCons (dVar 9) (dNil)))))) (dRet (dC (.bl false))) (dNext)) (dIf (dtNot (dtE (dCall s__law_is_whole (dCons (dCall s_operate (dCons (dVar 4) (dCons (dVar 2) (dCons (dL oTuple (dCons (dVar 6) (dNil))) (dNil))))) (dCons (dVar 9) (dNil)))))) (dRet (dC (.bl false))) (dNext))))))))) (dSeq (dAsg (dCall s__law_take (dCons (dVar 0) (dCons (dVar 1) (dCons (dOp oShl (dC (.int 1)) (dVar 2)) (dNil))))) (.nm 4)) (dSeq (dAsg (dOp oSub (dVar 4) (dOp oMul (dOp oFdiv (dVar 4) (dOp oShl (dC (.int 1)) (dOp oSub (dVar 2) (dC (.int 1))))) (dOp oShl (dC (.int 1)) (dVar 2)))) (.nm 9)) (dRet (dCall s__law_is_whole (dCons (dCall s_signed_value (dCons (dVar 2) (dCons (dVar 4) (dNil)))) (dCons (dVar 9) (dNil)))))))))
/-! _law_rows: numbers 0, cursor 1, width 2, many 3, told 4, at 5, row 6, number 7, word 8, calls _law_take all_rows -/
def b__law_rows (s__law_take s_all_rows : DSp) : DS := dSeq (dAsg (dCall s__law_take (dCons (dVar 0) (dCons (dVar 1) (dCons (dOp oAdd (dOp oFdiv (dC (.int 4)) (dVar 2)) (dC (.int 1))) (dNil))))) (.nm 3)) (dSeq (dIf (dtB (dOp oEq (dCall s__law_take (dCons (dVar 0) (dCons (dVar 1) (dCons (dC (.int 16)) (dNil))))) (dC (.int 0)))) (dAsg (dL oMin2 (dCons (dC (.int 4)) (dCons (dOp oFdiv (dC (.int 8)) (dVar 2)) (dNil)))) (.nm 3)) (dNext)) (dSeq (dAsg (dCall s_all_rows (dCons (dVar 2) (dCons (dVar 3) (dNil)))) (.nm 4)) (dSeq (dIf (dtOr (dtNot (dtE (dIs [.lst] (dVar 4)))) (dtB (dOp oNe (dL oLen (dCons (dVar 4) (dNil))) (dOp oShl (dC (.int 1)) (dOp oMul (dVar 2) (dVar 3)))))) (dRet (dC (.bl false))) (dNext)) (dSeq (dFor (dRng1 (dCons (dL oLen (dCons (dVar 4) (dNil))) (dNil))) (.nm 5) (dSeq (dAsg (dOp oIx (dVar 4) (dVar 5)) (.nm 6)) (dSeq (dIf (dtOr (dtNot (dtE (dIs [.tup] (dVar 6)))) (dtB (dOp oNe (dL oLen (dCons (dVar 6) (dNil))) (dVar 3)))) (dRet (dC (.bl false))) (dNext)) (dSeq (dAsg (dC (.int 0)) (.nm 7)) (dSeq (dFor (dIter (dVar 6)) (.nm 8) (dSeq (dIf (dtOr (dtNot (dtE (dIs [.int] (dVar 8)))) (dtOr (dtE (dIs [.bl] (dVar 8))) (dtNot (dtB (dChain oLe oLt (dC (.int 0)) (dVar 8) (dOp oShl (dC (.int 1)) (dVar 2))))))) (dRet (dC (.bl false))) (dNext)) (dAsg (dOp oAdd (dOp oMul (dVar 7) (dOp oShl (dC (.int 1)) (dVar 2))) (dVar 8)) (.nm 7)))) (dIf (dtB (dOp oNe (dVar 7) (dVar 5))) (dRet (dC (.bl false))) (dNext))))))) (dRet (dC (.bl true)))))))
/-! _law_strings: numbers 0, cursor 1, signs 2, name 3, k 4, words 5, good 6, calls _law_take _law_truth is_name is_value_name -/
def b__law_strings (s__law_take s__law_truth s_is_name s_is_value_name : DSp) : DS := dSeq (dAsg (dC (.str "abcmnxyz0189A_ -(")) (.nm 2)) (dSeq (dAsg (dC (.str "")) (.nm 3)) (dSeq (dFor (dRng1 (dCons (dCall s__law_take (dCons (dVar 0) (dCons (dVar 1) (dCons (dC (.int 9)) (dNil))))) (dNil))) (.nm 4) (dAsg (dOp oAdd (dVar 3) (dOp oIx (dVar 2) (dCall s__law_take (dCons (dVar 0) (dCons (dVar 1) (dCons (dOp oIx (dLst (dCons (dC (.int 12)) (dCons (dC (.int 12)) (dCons (dC (.int 17)) (dNil))))) (dCall s__law_take (dCons (dVar 0) (dCons (dVar 1) (dCons (dC (.int 3)) (dNil)))))) (dNil))))))) (.nm 3))) (dSeq (dAsg (dLst (dCons (dVar 3) (dCons (dC (.str "not")) (dCons (dC (.str "neg")) (dCons (dC (.str "shr")) (dCons (dC (.str "pick")) (dCons (dC (.str "pic")) (dCons (dC (.str "nota")) (dCons (dC (.str "add1")) (dCons (dC (.str "a")) (dCons (dC (.str "abcdef")) (dCons (dC (.str "abcdefg")) (dCons (dC (.str "")) (dCons (dC (.str "A")) (dCons (dC (.str "z9")) (dNil)))))))))))))))) (.nm 5)) (dSeq (dAsg (dOp oIx (dVar 5) (dOp oMul (dCall s__law_take (dCons (dVar 0) (dCons (dVar 1) (dCons (dL oLen (dCons (dVar 5) (dNil))) (dNil))))) (dCall s__law_take (dCons (dVar 0) (dCons (dVar 1) (dCons (dC (.int 2)) (dNil))))))) (.nm 3)) (dSeq (dAsg (dChain oLe oLe (dC (.int 1)) (dL oLen (dCons (dVar 3) (dNil))) (dC (.int 6))) (.nm 6)) (dSeq (dFor (dRng1 (dCons (dL oLen (dCons (dVar 3) (dNil))) (dNil))) (.nm 4) (dIf (dtB (dOp (oIn true) (dOp oIx (dVar 3) (dVar 4)) (dC (.str "abcdefghijklmnopqrstuvwxyz")))) (dIf (dtOr (dtB (dOp oEq (dVar 4) (dC (.int 0)))) (dtB (dOp (oIn true) (dOp oIx (dVar 3) (dVar 4)) (dC (.str "0123456789"))))) (dAsg (dC (.bl false)) (.nm 6)) (dNext)) (dNext))) (dSeq (dIf (dtNot (dtE (dCall s__law_truth (dCons (dCall s_is_name (dCons (dVar 3) (dNil))) (dCons (dVar 6) (dNil)))))) (dRet (dC (.bl false))) (dNext)) (dRet (dCall s__law_truth (dCons (dCall s_is_value_name (dCons (dVar 3) (dNil))) (dCons (dAndV (dVar 6) (dOp (oIn true) (dVar 3) (dLst (dCons (dC (.str "not")) (dCons (dC (.str "neg")) (dCons (dC (.str "shr")) (dCons (dC (.str "pick")) (dNil)))))))) (dNil))))))))))))
/-! _law_valid: formula 0, width 1, names 2, size 3, most 4, due 5, calls _law_size _law_depth _law_truth is_formula -/
def b__law_valid (s__law_size s__law_depth s__law_truth s_is_formula : DSp) : DS := dSeq (dAsg (dCall s__law_size (dCons (dVar 0) (dNil))) (.nm 3)) (dSeq (dFor (dIter (dLst (dCons (dOp oSub (dVar 3) (dC (.int 1))) (dCons (dVar 3) (dCons (dOp oAdd (dVar 3) (dC (.int 1))) (dNil)))))) (.nm 4) (dSeq (dAsg (dAndV (dOp oLe (dVar 3) (dVar 4)) (dOp oLe (dCall s__law_depth (dCons (dVar 0) (dNil))) (dC (.int 6)))) (.nm 5)) (dIf (dtNot (dtE (dCall s__law_truth (dCons (dCall s_is_formula (dCons (dVar 0) (dCons (dVar 1) (dCons (dL oList (dCons (dVar 2) (dNil))) (dCons (dVar 4) (dNil)))))) (dCons (dVar 5) (dNil)))))) (dRet (dC (.bl false))) (dNext)))) (dRet (dCall s__law_truth (dCons (dCall s_is_formula (dCons (dVar 0) (dCons (dVar 1) (dCons (dL oTuple (dCons (dVar 2) (dNil))) (dCons (dC (.int 40)) (dNil)))))) (dCons (dAndV (dOp oLe (dVar 3) (dC (.int 40))) (dOp oLe (dCall s__law_depth (dCons (dVar 0) (dNil))) (dC (.int 6)))) (dNil))))))
/-! _law_spoilt: numbers 0, cursor 1, formula 2, width 3, odd 4, wrong 5, calls _law_take -/
def b__law_spoilt (s__law_take : DSp) : DS := dSeq (dAsg (dLst (dCons (dOp oShl (dC (.int 1)) (dVar 3)) (dCons (dUn oNeg (dC (.int 1))) (dCons (dC (.str "Q")) (dCons (dC (.str "add")) (dCons (dTup (dNil)) (dCons (dTup (dCons (dC (.str "not")) (dCons (dC (.int 0)) (dCons (dC (.int 0)) (dNil))))) (dCons (dTup (dCons (dC (.str "add")) (dCons (dC (.int 0)) (dNil)))) (dCons (dTup (dCons (dC (.str "pick")) (dCons (dC (.int 0)) (dCons (dC (.int 0)) (dNil))))) (dCons (dTup (dCons (dC (.str "nand")) (dCons (dC (.int 0)) (dCons (dC (.int 0)) (dNil))))) (dCons (dTup (dCons (dC (.int 0)) (dCons (dC (.int 0)) (dNil)))) (dCons (dTup (dCons (dTup (dNil)) (dCons (dC (.int 0)) (dNil)))) (dNil))))))))))))) (.nm 4)) (dSeq (dAsg (dOp oIx (dVar 4) (dCall s__law_take (dCons (dVar 0) (dCons (dVar 1) (dCons (dL oLen (dCons (dVar 4) (dNil))) (dNil)))))) (.nm 5)) (dSeq (dIf (dtE (dIs [.int, .str] (dVar 2))) (dRet (dVar 5)) (dNext)) (dRet (dOp oAdd (dTup (dCons (dOp oIx (dVar 2) (dC (.int 0))) (dCons (dVar 5) (dNil)))) (dSl (dVar 2) (dPart (dC (.int 2))) dNoPart)))))
/-! law: script 0, numbers 1, cursor 2, width 3, names 4, formula 5, k 6, told 7, env 8, trade 9, handed 10, calls _law_stream _law_take _law_operations _law_rows _law_strings _law_formula _law_depth _law_is_whole _law_size formula_size formula_depth formula_names _law_names _law_valid _law_truth is_formula _law_spoilt _law_value formula_value put_in _law_put -/
def b_law (s__law_stream s__law_take s__law_operations s__law_rows s__law_strings s__law_formula s__law_depth s__law_is_whole s__law_size s_formula_size s_formula_depth s_formula_names s__law_names s__law_valid s__law_truth s_is_formula s__law_spoilt s__law_value s_formula_value s_put_in s__law_put : DSp) : DS := dSeq (dAsg (dCall s__law_stream (dCons (dVar 0) (dCons (dC (.int 300)) (dNil)))) (.nm 1)) (dSeq (dAsg (dLst (dCons (dC (.int 0)) (dNil))) (.nm 2)) (dSeq (dAsg (dOp oAdd (dC (.int 1)) (dCall s__law_take (dCons (dVar 1) (dCons (dVar 2) (dCons (dC (.int 4)) (dNil)))))) (.nm 3)) (dSeq (dIf (dtOr (dtNot (dtE (dCall s__law_operations (dCons (dVar 1) (dCons (dVar 2) (dCons (dVar 3) (dNil))))))) (dtNot (dtE (dCall s__law_rows (dCons (dVar 1) (dCons (dVar 2) (dCons (dVar 3) (dNil)))))))) (dRet (dC (.bl false))) (dNext)) (dSeq (dIf (dtNot (dtE (dCall s__law_strings (dCons (dVar 1) (dCons (dVar 2) (dNil)))))) (dRet (dC (.bl false))) (dNext)) (dSeq (dAsg (dSl (dLst (dCons (dC (.str "u")) (dCons (dC (.str "v2")) (dCons (dC (.str "alpha")) (dCons (dC (.str "k")) (dNil)))))) dNoPart (dPart (dCall s__law_take (dCons (dVar 1) (dCons (dVar 2) (dCons (dC (.int 5)) (dNil))))))) (.nm 4)) (dSeq (dAsg (dCall s__law_formula (dCons (dVar 1) (dCons (dVar 2) (dCons (dVar 4) (dCons (dVar 3) (dCons (dCall s__law_take (dCons (dVar 1) (dCons (dVar 2) (dCons (dC (.int 4)) (dNil))))) (dNil))))))) (.nm 5)) (dSeq (dFor (dRng1 (dCons (dOp oIx (dLst (dCons (dC (.int 0)) (dCons (dC (.int 0)) (dCons (dC (.int 4)) (dCons (dC (.int 6)) (dNil)))))) (dCall s__law_take (dCons (dVar 1) (dCons (dVar 2) (dCons (dC (.int 4)) (dNil)))))) (dNil))) (.nm 6) (dIf (dtB (dOp oLt (dCall s__law_depth (dCons (dVar 5) (dNil))) (dC (.int 7)))) (dAsg (dTup (dCons (dOp oIx (dLst (dCons (dC (.str "not")) (dCons (dC (.str "neg")) (dNil)))) (dCall s__law_take (dCons (dVar 1) (dCons (dVar 2) (dCons (dC (.int 2)) (dNil)))))) (dCons (dVar 5) (dNil)))) (.nm 5)) (dNext))) (dSeq (dIf (dtNot (dtE (dCall s__law_is_whole (dCons (dCall s_formula_size (dCons (dVar 5) (dNil))) (dCons (dCall s__law_size (dCons (dVar 5) (dNil))) (dNil)))))) (dRet (dC (.bl false))) (dNext)) (dSeq (dIf (dtNot (dtE (dCall s__law_is_whole (dCons (dCall s_formula_depth (dCons (dVar 5) (dNil))) (dCons (dCall s__law_depth (dCons (dVar 5) (dNil))) (dNil)))))) (dRet (dC (.bl false))) (dNext)) (dSeq (dAsg (dCall s_formula_names (dCons (dVar 5) (dNil))) (.nm 7)) (dSeq (dIf (dtOr (dtNot (dtE (dIs [.lst] (dVar 7)))) (dtB (dOp oNe (dVar 7) (dCall s__law_names (dCons (dVar 5) (dNil)))))) (dRet (dC (.bl false))) (dNext)) (dSeq (dIf (dtNot (dtE (dCall s__law_valid (dCons (dVar 5) (dCons (dVar 3) (dCons (dVar 4) (dNil))))))) (dRet (dC (.bl false))) (dNext)) (dSeq (dIf (dtNot (dtE (dCall s__law_truth (dCons (dCall s_is_formula (dCons (dCall s__law_spoilt (dCons (dVar 1) (dCons (dVar 2) (dCons (dVar 5) (dCons (dVar 3) (dNil)))))) (dCons (dVar 3) (dCons (dL oList (dCons (dVar 4) (dNil))) (dCons (dC (.int 40)) (dNil)))))) (dCons (dC (.bl false)) (dNil)))))) (dRet (dC (.bl false))) (dNext)) (dSeq (dAsg (dDisp [(dC (.str "other"), dC (.int 0))]) (.nm 8)) (dSeq (dAsg (dDisp [(dC (.str "other"), dC (.int 1))]) (.nm 9)) (dSeq (dFor (dRng1 (dCons (dL oLen (dCons (dVar 4) (dNil))) (dNil))) (.nm 6) (dSeq (dSetIx (dCall s__law_take (dCons (dVar 1) (dCons (dVar 2) (dCons (dOp oShl (dC (.int 1)) (dVar 3)) (dNil))))) (dVar 8) (dOp oIx (dVar 4) (dVar 6))) (dIf (dtB (dOp oGt (dCall s__law_take (dCons (dVar 1) (dCons (dVar 2) (dCons (dC (.int 3)) (dNil))))) (dC (.int 0)))) (dSetIx (dOp oIx (dLst (dCons (dTup (dCons (dC (.str "xor")) (dCons (dC (.str "other")) (dCons (dOp oIx (dVar 4) (dOp oSub (dVar 6) (dC (.int 1)))) (dNil))))) (dCons (dOp oIx (dVar 4) (dOp oSub (dVar 6) (dC (.int 1)))) (dCons (dC (.int 1)) (dNil))))) (dCall s__law_take (dCons (dVar 1) (dCons (dVar 2) (dCons (dC (.int 3)) (dNil)))))) (dVar 9) (dOp oIx (dVar 4) (dVar 6))) (dNext)))) (dSeq (dIf (dtNot (dtE (dCall s__law_is_whole (dCons (dCall s_formula_value (dCons (dVar 5) (dCons (dVar 3) (dCons (dL oDict (dCons (dVar 8) (dNil))) (dNil))))) (dCons (dCall s__law_value (dCons (dVar 5) (dCons (dVar 3) (dCons (dVar 8) (dNil))))) (dNil)))))) (dRet (dC (.bl false))) (dNext)) (dSeq (dAsg (dL oDict (dCons (dVar 9) (dNil))) (.nm 10)) (dRet (dAndV (dOp oEq (dCall s_put_in (dCons (dVar 5) (dCons (dVar 10) (dNil)))) (dCall s__law_put (dCons (dVar 5) (dCons (dVar 9) (dNil))))) (dOp oEq (dVar 10) (dVar 9))))))))))))))))))))))
/-! bad_input: text 0, at 1, name 2, calls is_value_name -/
def b_bad_input (cl : CF) (s_is_value_name : DSp) : DS := dSeq (dAsg (dOp oIx (dFld cl "inputs" (dVar 0)) (dVar 1)) (.nm 2)) (dSeq (dIf (dtOr (dtNot (dtE (dCall s_is_value_name (dCons (dVar 2) (dNil))))) (dtB (dOp (oIn false) (dVar 2) (dSl (dFld cl "inputs" (dVar 0)) dNoPart (dPart (dVar 1)))))) (dRet (dC (.bl true))) (dNext)) (dRet (dOrV (dOp oGe (dVar 1) (dC (.int 4))) (dOp oGt (dOp oMul (dFld cl "width" (dVar 0)) (dOp oAdd (dVar 1) (dC (.int 1)))) (dC (.int 8))))))
/-! bad_let: text 0, at 1, name 2, formula 3, known 4, row 5, calls is_value_name is_formula -/
def b_bad_let (cl : CF) (s_is_value_name s_is_formula : DSp) : DS := dSeq (dAsg (dOp oIx (dFld cl "lets" (dVar 0)) (dVar 1)) (.tp [2, 3])) (dSeq (dAsg (dOp oAdd (dL oList (dCons (dFld cl "inputs" (dVar 0)) (dNil))) (dLc (dIter (dSl (dFld cl "lets" (dVar 0)) dNoPart (dPart (dVar 1)))) (.nm 5) dYes (dOp oIx (dVar 5) (dC (.int 0))) [5])) (.nm 4)) (dSeq (dIf (dtOr (dtNot (dtE (dCall s_is_value_name (dCons (dVar 2) (dNil))))) (dtOr (dtB (dOp (oIn false) (dVar 2) (dVar 4))) (dtB (dOp oGe (dVar 1) (dC (.int 60)))))) (dRet (dC (.bl true))) (dNext)) (dRet (dNotV (dCall s_is_formula (dCons (dVar 3) (dCons (dFld cl "width" (dVar 0)) (dCons (dVar 4) (dCons (dC (.int 15)) (dNil))))))))))
/-! bad_out: text 0, at 1, register 2, formula 3, known 4, row 5, calls is_formula -/
def b_bad_out (cl : CF) (s_is_formula : DSp) : DS := dSeq (dAsg (dOp oIx (dFld cl "outs" (dVar 0)) (dVar 1)) (.tp [2, 3])) (dSeq (dAsg (dOp oAdd (dL oList (dCons (dFld cl "inputs" (dVar 0)) (dNil))) (dLc (dIter (dFld cl "lets" (dVar 0))) (.nm 5) dYes (dOp oIx (dVar 5) (dC (.int 0))) [5])) (.nm 4)) (dSeq (dIf (dtOr (dtNot (dtB (dChain oLe oLe (dC (.int 0)) (dVar 2) (dC (.int 3))))) (dtAnd (dtB (dOp oGt (dVar 1) (dC (.int 0)))) (dtB (dOp oLe (dVar 2) (dOp oIx (dOp oIx (dFld cl "outs" (dVar 0)) (dOp oSub (dVar 1) (dC (.int 1)))) (dC (.int 0))))))) (dRet (dC (.bl true))) (dNext)) (dRet (dNotV (dCall s_is_formula (dCons (dVar 3) (dCons (dFld cl "width" (dVar 0)) (dCons (dVar 4) (dCons (dC (.int 15)) (dNil))))))))))
/-! first_bad_line: text 0, line 1, at 2, calls bad_input is_formula bad_let bad_out -/
def b_first_bad_line (cl : CF) (s_bad_input s_is_formula s_bad_let s_bad_out : DSp) : DS := dSeq (dIf (dtNot (dtB (dChain oLe oLe (dC (.int 1)) (dFld cl "width" (dVar 0)) (dC (.int 4))))) (dRet (dC (.int 1))) (dNext)) (dSeq (dAsg (dC (.int 1)) (.nm 1)) (dSeq (dFor (dRng1 (dCons (dL oLen (dCons (dFld cl "inputs" (dVar 0)) (dNil))) (dNil))) (.nm 2) (dSeq (dAugAdd 1 (dC (.int 1))) (dIf (dtE (dCall s_bad_input (dCons (dVar 0) (dCons (dVar 2) (dNil))))) (dRet (dVar 1)) (dNext)))) (dSeq (dFor (dRng1 (dCons (dL oLen (dCons (dFld cl "needs" (dVar 0)) (dNil))) (dNil))) (.nm 2) (dSeq (dAugAdd 1 (dC (.int 1))) (dIf (dtOr (dtB (dOp oGe (dVar 2) (dC (.int 2)))) (dtNot (dtE (dCall s_is_formula (dCons (dOp oIx (dFld cl "needs" (dVar 0)) (dVar 2)) (dCons (dFld cl "width" (dVar 0)) (dCons (dFld cl "inputs" (dVar 0)) (dCons (dC (.int 15)) (dNil))))))))) (dRet (dVar 1)) (dNext)))) (dSeq (dFor (dRng1 (dCons (dL oLen (dCons (dFld cl "lets" (dVar 0)) (dNil))) (dNil))) (.nm 2) (dSeq (dAugAdd 1 (dC (.int 1))) (dIf (dtE (dCall s_bad_let (dCons (dVar 0) (dCons (dVar 2) (dNil))))) (dRet (dVar 1)) (dNext)))) (dSeq (dFor (dRng1 (dCons (dL oLen (dCons (dFld cl "outs" (dVar 0)) (dNil))) (dNil))) (.nm 2) (dSeq (dAugAdd 1 (dC (.int 1))) (dIf (dtE (dCall s_bad_out (dCons (dVar 0) (dCons (dVar 2) (dNil))))) (dRet (dVar 1)) (dNext)))) (dRet (dC (.int 0))))))))
/-! row_env: text 0, row 1, env 2, name 3, word 4, -/
def b_row_env (cl : CF) : DS := dSeq (dAsg (dNewK) (.nm 2)) (dSeq (dFor (dZip (dCons (dFld cl "inputs" (dVar 0)) (dCons (dVar 1) (dNil)))) (.tp [3, 4]) (dSetIx (dVar 4) (dVar 2) (dVar 3))) (dRet (dVar 2)))
/-! keeps_needs: text 0, row 1, env 2, formula 3, calls row_env formula_value -/
def b_keeps_needs (cl : CF) (s_row_env s_formula_value : DSp) : DS := dSeq (dAsg (dCall s_row_env (dCons (dVar 0) (dCons (dVar 1) (dNil)))) (.nm 2)) (dSeq (dFor (dIter (dFld cl "needs" (dVar 0))) (.nm 3) (dIf (dtB (dOp oEq (dCall s_formula_value (dCons (dVar 3) (dCons (dFld cl "width" (dVar 0)) (dCons (dVar 2) (dNil))))) (dC (.int 0)))) (dRet (dC (.bl false))) (dNext))) (dRet (dC (.bl true))))
/-! let_rows: text 0, rows 1, row 2, calls all_rows keeps_needs -/
def b_let_rows (cl : CF) (s_all_rows s_keeps_needs : DSp) : DS := dSeq (dAsg (dLst (dNil)) (.nm 1)) (dSeq (dFor (dIter (dCall s_all_rows (dCons (dFld cl "width" (dVar 0)) (dCons (dL oLen (dCons (dFld cl "inputs" (dVar 0)) (dNil))) (dNil))))) (.nm 2) (dIf (dtE (dCall s_keeps_needs (dCons (dVar 0) (dCons (dVar 2) (dNil))))) (dDrop (dApp (dVar 1) (dVar 2))) (dNext))) (dRet (dVar 1)))
/-! text_outputs: text 0, row 1, env 2, name 3, formula 4, found 5, register 6, calls row_env formula_value -/
def b_text_outputs (cl : CF) (s_row_env s_formula_value : DSp) : DS := dSeq (dAsg (dCall s_row_env (dCons (dVar 0) (dCons (dVar 1) (dNil)))) (.nm 2)) (dSeq (dFor (dIter (dFld cl "lets" (dVar 0))) (.tp [3, 4]) (dSetIx (dCall s_formula_value (dCons (dVar 4) (dCons (dFld cl "width" (dVar 0)) (dCons (dVar 2) (dNil))))) (dVar 2) (dVar 3))) (dSeq (dAsg (dLst (dNil)) (.nm 5)) (dSeq (dFor (dIter (dFld cl "outs" (dVar 0))) (.tp [6, 4]) (dDrop (dApp (dVar 5) (dTup (dCons (dVar 6) (dCons (dCall s_formula_value (dCons (dVar 4) (dCons (dFld cl "width" (dVar 0)) (dCons (dVar 2) (dNil))))) (dNil))))))) (dRet (dL oTuple (dCons (dVar 5) (dNil)))))))
/-! _law_text: numbers 0, cursor 1, width 2, bits 3, many 4, base 5, inputs 6, k 7, needs 8, count 9, lets 10, known 11, formula 12, outs 13, register 14, calls _law_take _law_formula -/
def b__law_text (s__law_take s__law_formula : DSp) : DS := dSeq (dAsg (dOp oAdd (dC (.int 1)) (dCall s__law_take (dCons (dVar 0) (dCons (dVar 1) (dCons (dC (.int 4)) (dNil)))))) (.nm 2)) (dSeq (dAsg (dC (.int 4)) (.nm 3)) (dSeq (dIf (dtB (dOp oEq (dCall s__law_take (dCons (dVar 0) (dCons (dVar 1) (dCons (dC (.int 8)) (dNil))))) (dC (.int 0)))) (dAsg (dC (.int 8)) (.nm 3)) (dNext)) (dSeq (dAsg (dCall s__law_take (dCons (dVar 0) (dCons (dVar 1) (dCons (dOp oAdd (dL oMin2 (dCons (dC (.int 4)) (dCons (dOp oFdiv (dVar 3) (dVar 2)) (dNil)))) (dC (.int 1))) (dNil))))) (.nm 4)) (dSeq (dAsg (dCall s__law_take (dCons (dVar 0) (dCons (dVar 1) (dCons (dC (.int 4)) (dNil))))) (.nm 5)) (dSeq (dAsg (dLc (dRng1 (dCons (dVar 4) (dNil))) (.nm 7) dYes (dOp oIx (dLst (dCons (dC (.str "x")) (dCons (dC (.str "y1")) (dCons (dC (.str "zeta")) (dCons (dC (.str "in4put")) (dNil)))))) (dOp oMod (dOp oAdd (dVar 7) (dVar 5)) (dC (.int 4)))) [7]) (.nm 6)) (dSeq (dAsg (dLc (dRng1 (dCons (dOp oIx (dLst (dCons (dC (.int 0)) (dCons (dC (.int 0)) (dCons (dC (.int 1)) (dCons (dC (.int 2)) (dNil)))))) (dCall s__law_take (dCons (dVar 0) (dCons (dVar 1) (dCons (dC (.int 4)) (dNil)))))) (dNil))) (.nm 7) dYes (dCall s__law_formula (dCons (dVar 0) (dCons (dVar 1) (dCons (dVar 6) (dCons (dVar 2) (dCons (dC (.int 2)) (dNil))))))) [7]) (.nm 8)) (dSeq (dAsg (dCall s__law_take (dCons (dVar 0) (dCons (dVar 1) (dCons (dC (.int 6)) (dNil))))) (.nm 9)) (dSeq (dIf (dtB (dOp oEq (dCall s__law_take (dCons (dVar 0) (dCons (dVar 1) (dCons (dC (.int 16)) (dNil))))) (dC (.int 0)))) (dAsg (dOp oAdd (dC (.int 40)) (dCall s__law_take (dCons (dVar 0) (dCons (dVar 1) (dCons (dC (.int 21)) (dNil)))))) (.nm 9)) (dNext)) (dSeq (dAsg (dLst (dNil)) (.nm 10)) (dSeq (dAsg (dL oList (dCons (dVar 6) (dNil))) (.nm 11)) (dSeq (dFor (dRng1 (dCons (dVar 9) (dNil))) (.nm 7) (dSeq (dAsg (dCall s__law_formula (dCons (dVar 0) (dCons (dVar 1) (dCons (dVar 11) (dCons (dVar 2) (dCons (dOp oAdd (dC (.int 1)) (dL oInt1 (dCons (dOp oLt (dVar 9) (dC (.int 9))) (dNil)))) (dNil))))))) (.nm 12)) (dSeq (dDrop (dApp (dVar 11) (dOp oAdd (dOp oIx (dC (.str "abcdefg")) (dCall s__law_take (dCons (dVar 0) (dCons (dVar 1) (dCons (dC (.int 7)) (dNil)))))) (dL oStr (dCons (dVar 7) (dNil)))))) (dDrop (dApp (dVar 10) (dTup (dCons (dOp oIx (dVar 11) (dUn oNeg (dC (.int 1)))) (dCons (dVar 12) (dNil))))))))) (dSeq (dAsg (dLst (dNil)) (.nm 13)) (dSeq (dFor (dRng1 (dCons (dC (.int 4)) (dNil))) (.nm 14) (dIf (dtB (dOp oEq (dCall s__law_take (dCons (dVar 0) (dCons (dVar 1) (dCons (dC (.int 2)) (dNil))))) (dC (.int 0)))) (dDrop (dApp (dVar 13) (dTup (dCons (dVar 14) (dCons (dCall s__law_formula (dCons (dVar 0) (dCons (dVar 1) (dCons (dVar 11) (dCons (dVar 2) (dCons (dC (.int 2)) (dNil))))))) (dNil)))))) (dNext))) (dRet (dLst (dCons (dVar 2) (dCons (dVar 6) (dCons (dVar 8) (dCons (dVar 10) (dCons (dVar 13) (dNil)))))))))))))))))))))
/-! _law_rows_v2: width 0, many 1, rows 2, number 3, row 4, k 5, -/
def b__law_rows_v2 : DS := dSeq (dAsg (dLst (dNil)) (.nm 2)) (dSeq (dFor (dRng1 (dCons (dOp oShl (dC (.int 1)) (dOp oMul (dVar 0) (dVar 1))) (dNil))) (.nm 3) (dSeq (dAsg (dLc (dRng1 (dCons (dVar 1) (dNil))) (.nm 5) dYes (dOp oAnd (dOp oShr (dVar 3) (dOp oMul (dVar 0) (dOp oSub (dOp oSub (dVar 1) (dC (.int 1))) (dVar 5)))) (dOp oSub (dOp oShl (dC (.int 1)) (dVar 0)) (dC (.int 1)))) [5]) (.nm 4)) (dDrop (dApp (dVar 2) (dL oTuple (dCons (dVar 4) (dNil))))))) (dRet (dVar 2)))
/-! _law_env: data 0, row 1, env 2, k 3, -/
def b__law_env : DS := dSeq (dAsg (dNewK) (.nm 2)) (dSeq (dFor (dRng1 (dCons (dL oLen (dCons (dVar 1) (dNil))) (dNil))) (.nm 3) (dSetIx (dOp oIx (dVar 1) (dVar 3)) (dVar 2) (dOp oIx (dOp oIx (dVar 0) (dC (.int 1))) (dVar 3)))) (dRet (dVar 2)))
/-! _law_keeps: data 0, row 1, env 2, formula 3, calls _law_env _law_value -/
def b__law_keeps (s__law_env s__law_value : DSp) : DS := dSeq (dAsg (dCall s__law_env (dCons (dVar 0) (dCons (dVar 1) (dNil)))) (.nm 2)) (dSeq (dFor (dIter (dOp oIx (dVar 0) (dC (.int 2)))) (.nm 3) (dIf (dtB (dOp oEq (dCall s__law_value (dCons (dVar 3) (dCons (dOp oIx (dVar 0) (dC (.int 0))) (dCons (dVar 2) (dNil))))) (dC (.int 0)))) (dRet (dC (.bl false))) (dNext))) (dRet (dC (.bl true))))
/-! _law_outputs: data 0, row 1, env 2, name 3, formula 4, out 5, calls _law_env _law_value -/
def b__law_outputs (s__law_env s__law_value : DSp) : DS := dSeq (dAsg (dCall s__law_env (dCons (dVar 0) (dCons (dVar 1) (dNil)))) (.nm 2)) (dSeq (dFor (dIter (dOp oIx (dVar 0) (dC (.int 3)))) (.tp [3, 4]) (dSetIx (dCall s__law_value (dCons (dVar 4) (dCons (dOp oIx (dVar 0) (dC (.int 0))) (dCons (dVar 2) (dNil))))) (dVar 2) (dVar 3))) (dRet (dL oTuple (dCons (dLc (dIter (dOp oIx (dVar 0) (dC (.int 4)))) (.nm 5) dYes (dTup (dCons (dOp oIx (dVar 5) (dC (.int 0))) (dCons (dCall s__law_value (dCons (dOp oIx (dVar 5) (dC (.int 1))) (dCons (dOp oIx (dVar 0) (dC (.int 0))) (dCons (dVar 2) (dNil))))) (dNil)))) [5]) (dNil)))))
/-! _law_is_word: word 0, -/
def b__law_is_word : DS := dRet (dAndV (dIs [.int] (dVar 0)) (dNotV (dIs [.bl] (dVar 0))))
/-! _law_same_outputs: told 0, due 1, pair 2, calls _law_is_word -/
def b__law_same_outputs (s__law_is_word : DSp) : DS := dSeq (dIf (dtOr (dtNot (dtE (dIs [.tup] (dVar 0)))) (dtB (dOp oNe (dL oLen (dCons (dVar 0) (dNil))) (dL oLen (dCons (dVar 1) (dNil)))))) (dRet (dC (.bl false))) (dNext)) (dSeq (dFor (dIter (dVar 0)) (.nm 2) (dSeq (dIf (dtOr (dtNot (dtE (dIs [.tup] (dVar 2)))) (dtB (dOp oNe (dL oLen (dCons (dVar 2) (dNil))) (dC (.int 2))))) (dRet (dC (.bl false))) (dNext)) (dIf (dtOr (dtNot (dtE (dCall s__law_is_word (dCons (dOp oIx (dVar 2) (dC (.int 0))) (dNil))))) (dtNot (dtE (dCall s__law_is_word (dCons (dOp oIx (dVar 2) (dC (.int 1))) (dNil)))))) (dRet (dC (.bl false))) (dNext)))) (dRet (dOp oEq (dVar 0) (dVar 1))))
/-! _law_same_rows: told 0, due 1, k 2, word 3, calls _law_is_word -/
def b__law_same_rows (s__law_is_word : DSp) : DS := dSeq (dIf (dtOr (dtNot (dtE (dIs [.lst] (dVar 0)))) (dtB (dOp oNe (dL oLen (dCons (dVar 0) (dNil))) (dL oLen (dCons (dVar 1) (dNil)))))) (dRet (dC (.bl false))) (dNext)) (dSeq (dFor (dRng1 (dCons (dL oLen (dCons (dVar 1) (dNil))) (dNil))) (.nm 2) (dSeq (dIf (dtOr (dtNot (dtE (dIs [.tup] (dOp oIx (dVar 0) (dVar 2))))) (dtB (dOp oNe (dOp oIx (dVar 0) (dVar 2)) (dOp oIx (dVar 1) (dVar 2))))) (dRet (dC (.bl false))) (dNext)) (dFor (dIter (dOp oIx (dVar 0) (dVar 2))) (.nm 3) (dIf (dtNot (dtE (dCall s__law_is_word (dCons (dVar 3) (dNil))))) (dRet (dC (.bl false))) (dNext))))) (dRet (dC (.bl true))))
/-! law_v2: script 0, numbers 1, cursor 2, data 3, text 4, rows 5, kept 6, row 7, due 8, k 9, told 10, stride 11, said 12, calls _law_stream _law_text _law_rows _law_keeps let_rows _law_same_rows keeps_needs _law_same_outputs _law_outputs text_outputs -/
def b_law_v2 (cl : CF) (c_Text : Addr) (s_Text : DSp) (s__law_stream s__law_text s__law_rows s__law_keeps s_let_rows s__law_same_rows s_keeps_needs s__law_same_outputs s__law_outputs s_text_outputs : DSp) : DS := dSeq (dAsg (dCall s__law_stream (dCons (dVar 0) (dCons (dC (.int 300)) (dNil)))) (.nm 1)) (dSeq (dAsg (dLst (dCons (dC (.int 0)) (dNil))) (.nm 2)) (dSeq (dAsg (dCall s__law_text (dCons (dVar 1) (dCons (dVar 2) (dNil)))) (.nm 3)) (dSeq (dAsg (dMake c_Text s_Text (dCons (dOp oIx (dVar 3) (dC (.int 0))) (dCons (dL oList (dCons (dOp oIx (dVar 3) (dC (.int 1))) (dNil))) (dCons (dL oList (dCons (dOp oIx (dVar 3) (dC (.int 2))) (dNil))) (dCons (dL oList (dCons (dOp oIx (dVar 3) (dC (.int 3))) (dNil))) (dCons (dL oList (dCons (dOp oIx (dVar 3) (dC (.int 4))) (dNil))) (dNil))))))) (.nm 4)) (dSeq (dAsg (dCall s__law_rows (dCons (dOp oIx (dVar 3) (dC (.int 0))) (dCons (dL oLen (dCons (dOp oIx (dVar 3) (dC (.int 1))) (dNil))) (dNil)))) (.nm 5)) (dSeq (dAsg (dLc (dIter (dVar 5)) (.nm 7) dYes (dCall s__law_keeps (dCons (dVar 3) (dCons (dVar 7) (dNil)))) [7]) (.nm 6)) (dSeq (dAsg (dLc (dRng1 (dCons (dL oLen (dCons (dVar 5) (dNil))) (dNil))) (.nm 9) (dtE (dOp oIx (dVar 6) (dVar 9))) (dOp oIx (dVar 5) (dVar 9)) [9]) (.nm 8)) (dSeq (dAsg (dCall s_let_rows (dCons (dVar 4) (dNil))) (.nm 10)) (dSeq (dIf (dtNot (dtE (dCall s__law_same_rows (dCons (dVar 10) (dCons (dVar 8) (dNil)))))) (dRet (dC (.bl false))) (dNext)) (dSeq (dDrop (dApp (dVar 10) (dTup (dNil)))) (dSeq (dAsg (dOp oAdd (dC (.int 1)) (dOp oFdiv (dL oLen (dCons (dVar 5) (dNil))) (dC (.int 24)))) (.nm 11)) (dSeq (dFor (dRng1 (dCons (dL oLen (dCons (dVar 5) (dNil))) (dNil))) (.nm 9) (dSeq (dAsg (dCall s_keeps_needs (dCons (dVar 4) (dCons (dOp oIx (dVar 5) (dVar 9)) (dNil)))) (.nm 12)) (dSeq (dIf (dtOr (dtNot (dtE (dIs [.bl] (dVar 12)))) (dtB (dOp oNe (dVar 12) (dOp oIx (dVar 6) (dVar 9))))) (dRet (dC (.bl false))) (dNext)) (dIf (dtAnd (dtB (dOp oEq (dOp oMod (dVar 9) (dVar 11)) (dC (.int 0)))) (dtNot (dtE (dCall s__law_same_outputs (dCons (dCall s_text_outputs (dCons (dVar 4) (dCons (dOp oIx (dVar 5) (dVar 9)) (dNil)))) (dCons (dCall s__law_outputs (dCons (dVar 3) (dCons (dOp oIx (dVar 5) (dVar 9)) (dNil)))) (dNil))))))) (dRet (dC (.bl false))) (dNext))))) (dSeq (dIf (dtOr (dtB (dOp oNe (dFld cl "inputs" (dVar 4)) (dL oTuple (dCons (dOp oIx (dVar 3) (dC (.int 1))) (dNil))))) (dtOr (dtB (dOp oNe (dFld cl "outs" (dVar 4)) (dL oTuple (dCons (dOp oIx (dVar 3) (dC (.int 4))) (dNil))))) (dtB (dOp oNe (dFld cl "lets" (dVar 4)) (dL oTuple (dCons (dOp oIx (dVar 3) (dC (.int 3))) (dNil))))))) (dRet (dC (.bl false))) (dNext)) (dRet (dCall s__law_same_rows (dCons (dCall s_let_rows (dCons (dVar 4) (dNil))) (dCons (dVar 8) (dNil)))))))))))))))))
/-! Text__init__: self 0, width 1, inputs 2, needs 3, lets 4, outs 5, name 6, formula 7, register 8, line 9, calls first_bad_line -/
def b_Text__init__ (cl : CF) (s_first_bad_line : DSp) : DS := dSeq (dSetFld cl "width" (dVar 1) (dVar 0)) (dSeq (dSetFld cl "inputs" (dL oTuple (dCons (dVar 2) (dNil))) (dVar 0)) (dSeq (dSetFld cl "needs" (dL oTuple (dCons (dVar 3) (dNil))) (dVar 0)) (dSeq (dSetFld cl "lets" (dL oTuple (dCons (dLc (dIter (dVar 4)) (.tp [6, 7]) dYes (dTup (dCons (dVar 6) (dCons (dVar 7) (dNil)))) [6, 7]) (dNil))) (dVar 0)) (dSeq (dSetFld cl "outs" (dL oTuple (dCons (dLc (dIter (dVar 5)) (.tp [8, 7]) dYes (dTup (dCons (dVar 8) (dCons (dVar 7) (dNil)))) [8, 7]) (dNil))) (dVar 0)) (dSeq (dAsg (dCall s_first_bad_line (dCons (dVar 0) (dNil))) (.nm 9)) (dIf (dtB (dOp oGt (dVar 9) (dC (.int 0)))) (dNever) (dNext)))))))
/-! _law_name: numbers 0, cursor 1, at 2, plain 3, letters 4, name 5, k 6, calls _law_take -/
def b__law_name (s__law_take : DSp) : DS := dSeq (dAsg (dC (.str "abcdefghijklmnopqrstuvwxyz")) (.nm 4)) (dSeq (dAsg (dOp oIx (dVar 4) (dCall s__law_take (dCons (dVar 0) (dCons (dVar 1) (dCons (dC (.int 26)) (dNil)))))) (.nm 5)) (dSeq (dFor (dRng1 (dCons (dCall s__law_take (dCons (dVar 0) (dCons (dVar 1) (dCons (dC (.int 4)) (dNil))))) (dNil))) (.nm 6) (dAsg (dOp oAdd (dVar 5) (dOp oIx (dOp oAdd (dVar 4) (dC (.str "0123456789"))) (dCall s__law_take (dCons (dVar 0) (dCons (dVar 1) (dCons (dC (.int 36)) (dNil))))))) (.nm 5))) (dSeq (dIf (dtE (dVar 3)) (dRet (dOp oAdd (dSl (dVar 5) dNoPart (dPart (dC (.int 4)))) (dL oStr (dCons (dVar 2) (dNil))))) (dNext)) (dRet (dVar 5)))))
/-! _law_arity_v2: word 0, -/
def b__law_arity_v2 : DS := dSeq (dIf (dtB (dOp (oIn false) (dVar 0) (dLst (dCons (dC (.str "not")) (dCons (dC (.str "neg")) (dNil)))))) (dRet (dC (.int 1))) (dNext)) (dSeq (dIf (dtB (dOp oEq (dVar 0) (dC (.str "pick")))) (dRet (dC (.int 3))) (dNext)) (dSeq (dIf (dtB (dOp (oIn false) (dVar 0) (dLst (dCons (dC (.str "and")) (dCons (dC (.str "or")) (dCons (dC (.str "xor")) (dCons (dC (.str "add")) (dCons (dC (.str "sub")) (dCons (dC (.str "mul")) (dCons (dC (.str "shl")) (dCons (dC (.str "shr")) (dCons (dC (.str "eq")) (dCons (dC (.str "lt")) (dCons (dC (.str "slt")) (dNil))))))))))))))) (dRet (dC (.int 2))) (dNext)) (dRet (dC (.int 0)))))
/-! _law_formula_v2: numbers 0, cursor 1, names 2, width 3, depth 4, words 5, word 6, parts 7, k 8, calls _law_take _law_arity _law_formula -/
def b__law_formula_v2 (s__law_take s__law_arity s__law_formula : DSp) : DS := dSeq (dAsg (dLst (dCons (dC (.str "not")) (dCons (dC (.str "neg")) (dCons (dC (.str "and")) (dCons (dC (.str "or")) (dCons (dC (.str "xor")) (dCons (dC (.str "add")) (dCons (dC (.str "sub")) (dCons (dC (.str "mul")) (dCons (dC (.str "shl")) (dCons (dC (.str "shr")) (dCons (dC (.str "eq")) (dCons (dC (.str "lt")) (dCons (dC (.str "slt")) (dCons (dC (.str "pick")) (dNil)))))))))))))))) (.nm 5)) (dSeq (dIf (dtOr (dtB (dOp oEq (dVar 4) (dC (.int 0)))) (dtB (dOp oEq (dCall s__law_take (dCons (dVar 0) (dCons (dVar 1) (dCons (dC (.int 3)) (dNil))))) (dC (.int 0))))) (dSeq (dIf (dtAnd (dtB (dOp oGt (dL oLen (dCons (dVar 2) (dNil))) (dC (.int 0)))) (dtB (dOp oGt (dCall s__law_take (dCons (dVar 0) (dCons (dVar 1) (dCons (dC (.int 4)) (dNil))))) (dC (.int 0))))) (dRet (dOp oIx (dVar 2) (dCall s__law_take (dCons (dVar 0) (dCons (dVar 1) (dCons (dL oLen (dCons (dVar 2) (dNil))) (dNil))))))) (dNext)) (dRet (dCall s__law_take (dCons (dVar 0) (dCons (dVar 1) (dCons (dOp oShl (dC (.int 1)) (dL oMin2 (dCons (dL oMax2 (dCons (dVar 3) (dCons (dC (.int 1)) (dNil)))) (dCons (dC (.int 4)) (dNil))))) (dNil))))))) (dNext)) (dSeq (dAsg (dOp oIx (dVar 5) (dCall s__law_take (dCons (dVar 0) (dCons (dVar 1) (dCons (dC (.int 14)) (dNil)))))) (.nm 6)) (dSeq (dAsg (dLst (dCons (dVar 6) (dNil))) (.nm 7)) (dSeq (dFor (dRng1 (dCons (dCall s__law_arity (dCons (dVar 6) (dNil))) (dNil))) (.nm 8) (dDrop (dApp (dVar 7) (dCall s__law_formula (dCons (dVar 0) (dCons (dVar 1) (dCons (dVar 2) (dCons (dVar 3) (dCons (dOp oSub (dVar 4) (dC (.int 1))) (dNil)))))))))) (dRet (dL oTuple (dCons (dVar 7) (dNil))))))))
/-! _law_odd: choice 0, names 1, width 2, leaf 3, deep 4, k 5, long 6, wide 7, last 8, odd 9, -/
def b__law_odd : DS := dSeq (dAsg (dC (.int 0)) (.nm 3)) (dSeq (dIf (dtB (dOp oGt (dL oLen (dCons (dVar 1) (dNil))) (dC (.int 0)))) (dAsg (dOp oIx (dVar 1) (dOp oSub (dL oLen (dCons (dVar 1) (dNil))) (dC (.int 1)))) (.nm 3)) (dNext)) (dSeq (dAsg (dVar 3) (.nm 4)) (dSeq (dFor (dRng1 (dCons (dOp oAdd (dC (.int 6)) (dOp oMod (dVar 0) (dC (.int 2)))) (dNil))) (.nm 5) (dAsg (dTup (dCons (dOp oIx (dLst (dCons (dC (.str "not")) (dCons (dC (.str "neg")) (dNil)))) (dOp oMod (dVar 5) (dC (.int 2)))) (dCons (dVar 4) (dNil)))) (.nm 4))) (dSeq (dAsg (dVar 3) (.nm 6)) (dSeq (dFor (dRng1 (dCons (dC (.int 4)) (dNil))) (.nm 5) (dAsg (dTup (dCons (dC (.str "add")) (dCons (dVar 6) (dCons (dVar 3) (dNil))))) (.nm 6))) (dSeq (dAsg (dTup (dCons (dC (.str "pick")) (dCons (dVar 3) (dCons (dTup (dCons (dC (.str "xor")) (dCons (dVar 3) (dCons (dC (.int 0)) (dNil))))) (dCons (dVar 3) (dNil)))))) (.nm 7)) (dSeq (dIf (dtB (dOp oLt (dVar 0) (dC (.int 2)))) (dRet (dVar 4)) (dNext)) (dSeq (dIf (dtB (dOp oLt (dVar 0) (dC (.int 4)))) (dSeq (dAsg (dTup (dCons (dC (.str "sub")) (dCons (dOp oIx (dLst (dCons (dVar 3) (dCons (dTup (dCons (dC (.str "not")) (dCons (dVar 3) (dNil)))) (dNil)))) (dOp oMod (dVar 0) (dC (.int 2)))) (dCons (dTup (dCons (dC (.str "add")) (dCons (dVar 3) (dCons (dVar 3) (dNil))))) (dNil))))) (.nm 8)) (dRet (dTup (dCons (dC (.str "or")) (dCons (dVar 6) (dCons (dVar 8) (dNil))))))) (dNext)) (dSeq (dAsg (dLst (dCons (dTup (dCons (dC (.str "and")) (dCons (dC (.str "Q")) (dCons (dVar 3) (dNil))))) (dCons (dTup (dCons (dC (.str "and")) (dCons (dVar 3) (dCons (dC (.str "add")) (dNil))))) (dCons (dTup (dCons (dC (.str "mul")) (dCons (dVar 3) (dCons (dOp oShl (dC (.int 1)) (dVar 2)) (dNil))))) (dCons (dTup (dCons (dC (.str "mul")) (dCons (dVar 3) (dCons (dOp oSub (dOp oShl (dC (.int 1)) (dVar 2)) (dC (.int 1))) (dNil))))) (dCons (dUn oNeg (dC (.int 1))) (dNil))))))) (.nm 9)) (dSeq (dAsg (dOp oAdd (dVar 9) (dLst (dCons (dTup (dCons (dC (.str "not")) (dCons (dVar 3) (dCons (dVar 3) (dNil))))) (dCons (dTup (dCons (dC (.str "add")) (dCons (dVar 3) (dNil)))) (dCons (dTup (dCons (dC (.str "pick")) (dCons (dVar 3) (dCons (dVar 3) (dNil))))) (dCons (dTup (dNil)) (dCons (dTup (dCons (dC (.str "nand")) (dCons (dVar 3) (dCons (dVar 3) (dNil))))) (dCons (dTup (dCons (dC (.int 1)) (dCons (dVar 3) (dNil)))) (dCons (dVar 7) (dNil)))))))))) (.nm 9)) (dSeq (dAsg (dOp oAdd (dVar 9) (dLst (dCons (dTup (dCons (dC (.str "sub")) (dCons (dTup (dCons (dC (.str "neg")) (dNil))) (dCons (dVar 3) (dNil))))) (dCons (dC (.str "and")) (dCons (dTup (dCons (dC (.str "lt")) (dCons (dC (.str "")) (dCons (dVar 3) (dNil))))) (dNil)))))) (.nm 9)) (dRet (dOp oIx (dVar 9) (dOp oMod (dVar 0) (dL oLen (dCons (dVar 9) (dNil)))))))))))))))))
/-! _law_size_v2: formula 0, total 1, part 2, calls _law_size -/
def b__law_size_v2 (s__law_size : DSp) : DS := dSeq (dIf (dtE (dIs [.int, .str] (dVar 0))) (dRet (dC (.int 1))) (dNext)) (dSeq (dAsg (dC (.int 1)) (.nm 1)) (dSeq (dFor (dIter (dSl (dVar 0) (dPart (dC (.int 1))) dNoPart)) (.nm 2) (dAsg (dOp oAdd (dVar 1) (dCall s__law_size (dCons (dVar 2) (dNil)))) (.nm 1))) (dRet (dVar 1))))
/-! _law_shape: formula 0, width 1, names 2, depth 3, good 4, part 5, calls _law_arity _law_shape -/
def b__law_shape (s__law_arity s__law_shape : DSp) : DS := dSeq (dIf (dtE (dIs [.int] (dVar 0))) (dRet (dChain oLe oLt (dC (.int 0)) (dVar 0) (dOp oShl (dC (.int 1)) (dVar 1)))) (dNext)) (dSeq (dIf (dtE (dIs [.str] (dVar 0))) (dRet (dOp (oIn false) (dVar 0) (dVar 2))) (dNext)) (dSeq (dIf (dtOr (dtB (dOp oEq (dVar 3) (dC (.int 0)))) (dtOr (dtB (dOp oEq (dL oLen (dCons (dVar 0) (dNil))) (dC (.int 0)))) (dtNot (dtE (dIs [.str] (dOp oIx (dVar 0) (dC (.int 0)))))))) (dRet (dC (.bl false))) (dNext)) (dSeq (dIf (dtOr (dtB (dOp oEq (dCall s__law_arity (dCons (dOp oIx (dVar 0) (dC (.int 0))) (dNil))) (dC (.int 0)))) (dtB (dOp oNe (dL oLen (dCons (dVar 0) (dNil))) (dOp oAdd (dC (.int 1)) (dCall s__law_arity (dCons (dOp oIx (dVar 0) (dC (.int 0))) (dNil))))))) (dRet (dC (.bl false))) (dNext)) (dSeq (dAsg (dC (.bl true)) (.nm 4)) (dSeq (dFor (dIter (dSl (dVar 0) (dPart (dC (.int 1))) dNoPart)) (.nm 5) (dAsg (dAndV (dVar 4) (dCall s__law_shape (dCons (dVar 5) (dCons (dVar 1) (dCons (dVar 2) (dCons (dOp oSub (dVar 3) (dC (.int 1))) (dNil))))))) (.nm 4))) (dRet (dVar 4)))))))
/-! _law_good: formula 0, width 1, names 2, calls _law_shape _law_size -/
def b__law_good (s__law_shape s__law_size : DSp) : DS := dRet (dAndV (dCall s__law_shape (dCons (dVar 0) (dCons (dVar 1) (dCons (dVar 2) (dCons (dC (.int 6)) (dNil)))))) (dOp oLe (dCall s__law_size (dCons (dVar 0) (dNil))) (dC (.int 15))))
/-! _law_good_name: name 0, sign 1, calls _law_arity -/
def b__law_good_name (s__law_arity : DSp) : DS := dSeq (dIf (dtOr (dtNot (dtB (dChain oLe oLe (dC (.int 1)) (dL oLen (dCons (dVar 0) (dNil))) (dC (.int 6))))) (dtOr (dtB (dOp (oIn true) (dOp oIx (dVar 0) (dC (.int 0))) (dC (.str "abcdefghijklmnopqrstuvwxyz")))) (dtB (dOp oGt (dCall s__law_arity (dCons (dVar 0) (dNil))) (dC (.int 0)))))) (dRet (dC (.bl false))) (dNext)) (dSeq (dFor (dIter (dVar 0)) (.nm 1) (dIf (dtB (dOp (oIn true) (dVar 1) (dC (.str "abcdefghijklmnopqrstuvwxyz0123456789")))) (dRet (dC (.bl false))) (dNext))) (dRet (dC (.bl true))))
/-! _law_due: width 0, inputs 1, needs 2, lets 3, outs 4, line 5, known 6, at 7, before 8, register 9, formula 10, calls _law_good_name _law_good -/
def b__law_due (s__law_good_name s__law_good : DSp) : DS := dSeq (dIf (dtNot (dtB (dChain oLe oLe (dC (.int 1)) (dVar 0) (dC (.int 4))))) (dRet (dC (.int 1))) (dNext)) (dSeq (dAsg (dC (.int 1)) (.nm 5)) (dSeq (dAsg (dLst (dNil)) (.nm 6)) (dSeq (dFor (dRng1 (dCons (dL oLen (dCons (dVar 1) (dNil))) (dNil))) (.nm 7) (dSeq (dAsg (dOp oAdd (dVar 5) (dC (.int 1))) (.nm 5)) (dSeq (dIf (dtOr (dtNot (dtE (dCall s__law_good_name (dCons (dOp oIx (dVar 1) (dVar 7)) (dNil))))) (dtOr (dtB (dOp (oIn false) (dOp oIx (dVar 1) (dVar 7)) (dVar 6))) (dtOr (dtB (dOp oGe (dVar 7) (dC (.int 4)))) (dtB (dOp oGt (dOp oMul (dVar 0) (dOp oAdd (dVar 7) (dC (.int 1)))) (dC (.int 8))))))) (dRet (dVar 5)) (dNext)) (dDrop (dApp (dVar 6) (dOp oIx (dVar 1) (dVar 7))))))) (dSeq (dFor (dRng1 (dCons (dL oLen (dCons (dVar 2) (dNil))) (dNil))) (.nm 7) (dSeq (dAsg (dOp oAdd (dVar 5) (dC (.int 1))) (.nm 5)) (dIf (dtOr (dtB (dOp oGe (dVar 7) (dC (.int 2)))) (dtNot (dtE (dCall s__law_good (dCons (dOp oIx (dVar 2) (dVar 7)) (dCons (dVar 0) (dCons (dVar 6) (dNil)))))))) (dRet (dVar 5)) (dNext)))) (dSeq (dFor (dRng1 (dCons (dL oLen (dCons (dVar 3) (dNil))) (dNil))) (.nm 7) (dSeq (dAsg (dOp oAdd (dVar 5) (dC (.int 1))) (.nm 5)) (dSeq (dIf (dtOr (dtB (dOp oGe (dVar 7) (dC (.int 60)))) (dtOr (dtNot (dtE (dCall s__law_good_name (dCons (dOp oIx (dOp oIx (dVar 3) (dVar 7)) (dC (.int 0))) (dNil))))) (dtB (dOp (oIn false) (dOp oIx (dOp oIx (dVar 3) (dVar 7)) (dC (.int 0))) (dVar 6))))) (dRet (dVar 5)) (dNext)) (dSeq (dIf (dtNot (dtE (dCall s__law_good (dCons (dOp oIx (dOp oIx (dVar 3) (dVar 7)) (dC (.int 1))) (dCons (dVar 0) (dCons (dVar 6) (dNil))))))) (dRet (dVar 5)) (dNext)) (dDrop (dApp (dVar 6) (dOp oIx (dOp oIx (dVar 3) (dVar 7)) (dC (.int 0))))))))) (dSeq (dAsg (dUn oNeg (dC (.int 1))) (.nm 8)) (dSeq (dFor (dIter (dVar 4)) (.tp [9, 10]) (dSeq (dAsg (dOp oAdd (dVar 5) (dC (.int 1))) (.nm 5)) (dSeq (dIf (dtOr (dtNot (dtB (dChain oLt oLe (dVar 8) (dVar 9) (dC (.int 3))))) (dtNot (dtE (dCall s__law_good (dCons (dVar 10) (dCons (dVar 0) (dCons (dVar 6) (dNil)))))))) (dRet (dVar 5)) (dNext)) (dAsg (dVar 9) (.nm 8))))) (dRet (dC (.int 0))))))))))
/-! _law_data: numbers 0, cursor 1, width 2, plain 3, most 4, inputs 5, k 6, needs 7, many 8, lets 9, known 10, name 11, outs 12, register 13, calls _law_take _law_name _law_formula -/
def b__law_data (s__law_take s__law_name s__law_formula : DSp) : DS := dSeq (dAsg (dOp oIx (dLst (dCons (dC (.int 1)) (dCons (dC (.int 2)) (dCons (dC (.int 2)) (dCons (dC (.int 3)) (dCons (dC (.int 4)) (dCons (dC (.int 1)) (dCons (dC (.int 2)) (dCons (dC (.int 3)) (dCons (dC (.int 0)) (dCons (dC (.int 5)) (dNil)))))))))))) (dCall s__law_take (dCons (dVar 0) (dCons (dVar 1) (dCons (dC (.int 10)) (dNil)))))) (.nm 2)) (dSeq (dAsg (dOp oGt (dCall s__law_take (dCons (dVar 0) (dCons (dVar 1) (dCons (dC (.int 4)) (dNil))))) (dC (.int 0))) (.nm 3)) (dSeq (dAsg (dL oMax2 (dCons (dC (.int 1)) (dCons (dL oMin2 (dCons (dC (.int 4)) (dCons (dOp oFdiv (dC (.int 8)) (dL oMax2 (dCons (dVar 2) (dCons (dC (.int 1)) (dNil))))) (dNil)))) (dNil)))) (.nm 4)) (dSeq (dAsg (dLst (dNil)) (.nm 5)) (dSeq (dFor (dRng1 (dCons (dOp oAdd (dCall s__law_take (dCons (dVar 0) (dCons (dVar 1) (dCons (dOp oAdd (dVar 4) (dC (.int 1))) (dNil))))) (dL oInt1 (dCons (dOp oEq (dCall s__law_take (dCons (dVar 0) (dCons (dVar 1) (dCons (dC (.int 12)) (dNil))))) (dC (.int 0))) (dNil)))) (dNil))) (.nm 6) (dDrop (dApp (dVar 5) (dCall s__law_name (dCons (dVar 0) (dCons (dVar 1) (dCons (dVar 6) (dCons (dVar 3) (dNil))))))))) (dSeq (dAsg (dLst (dNil)) (.nm 7)) (dSeq (dFor (dRng1 (dCons (dOp oIx (dLst (dCons (dC (.int 0)) (dCons (dC (.int 0)) (dCons (dC (.int 1)) (dCons (dC (.int 1)) (dCons (dC (.int 2)) (dCons (dC (.int 2)) (dCons (dC (.int 3)) (dNil))))))))) (dCall s__law_take (dCons (dVar 0) (dCons (dVar 1) (dCons (dC (.int 7)) (dNil)))))) (dNil))) (.nm 6) (dDrop (dApp (dVar 7) (dCall s__law_formula (dCons (dVar 0) (dCons (dVar 1) (dCons (dVar 5) (dCons (dVar 2) (dCons (dC (.int 2)) (dNil)))))))))) (dSeq (dAsg (dCall s__law_take (dCons (dVar 0) (dCons (dVar 1) (dCons (dC (.int 7)) (dNil))))) (.nm 8)) (dSeq (dIf (dtB (dOp oEq (dCall s__law_take (dCons (dVar 0) (dCons (dVar 1) (dCons (dC (.int 16)) (dNil))))) (dC (.int 0)))) (dAsg (dOp oAdd (dC (.int 56)) (dCall s__law_take (dCons (dVar 0) (dCons (dVar 1) (dCons (dC (.int 7)) (dNil)))))) (.nm 8)) (dNext)) (dSeq (dAsg (dLst (dNil)) (.nm 9)) (dSeq (dAsg (dL oList (dCons (dVar 5) (dNil))) (.nm 10)) (dSeq (dFor (dRng1 (dCons (dVar 8) (dNil))) (.nm 6) (dSeq (dAsg (dCall s__law_name (dCons (dVar 0) (dCons (dVar 1) (dCons (dOp oAdd (dVar 6) (dC (.int 5))) (dCons (dVar 3) (dNil)))))) (.nm 11)) (dSeq (dDrop (dApp (dVar 9) (dTup (dCons (dVar 11) (dCons (dCall s__law_formula (dCons (dVar 0) (dCons (dVar 1) (dCons (dVar 10) (dCons (dVar 2) (dCons (dOp oAdd (dC (.int 1)) (dL oInt1 (dCons (dOp oLt (dVar 8) (dC (.int 9))) (dNil)))) (dNil))))))) (dNil)))))) (dDrop (dApp (dVar 10) (dVar 11)))))) (dSeq (dAsg (dLst (dNil)) (.nm 12)) (dSeq (dAsg (dOp oAdd (dOp oSub (dCall s__law_take (dCons (dVar 0) (dCons (dVar 1) (dCons (dC (.int 3)) (dNil))))) (dC (.int 1))) (dL oInt1 (dCons (dOp oGt (dCall s__law_take (dCons (dVar 0) (dCons (dVar 1) (dCons (dC (.int 4)) (dNil))))) (dC (.int 0))) (dNil)))) (.nm 13)) (dSeq (dFor (dRng1 (dCons (dCall s__law_take (dCons (dVar 0) (dCons (dVar 1) (dCons (dC (.int 4)) (dNil))))) (dNil))) (.nm 6) (dSeq (dDrop (dApp (dVar 12) (dTup (dCons (dVar 13) (dCons (dCall s__law_formula (dCons (dVar 0) (dCons (dVar 1) (dCons (dVar 10) (dCons (dVar 2) (dCons (dC (.int 2)) (dNil))))))) (dNil)))))) (dAsg (dOp oSub (dOp oAdd (dOp oAdd (dVar 13) (dC (.int 1))) (dL oInt1 (dCons (dOp oEq (dCall s__law_take (dCons (dVar 0) (dCons (dVar 1) (dCons (dC (.int 6)) (dNil))))) (dC (.int 0))) (dNil)))) (dL oInt1 (dCons (dOp oEq (dCall s__law_take (dCons (dVar 0) (dCons (dVar 1) (dCons (dC (.int 9)) (dNil))))) (dC (.int 0))) (dNil)))) (.nm 13)))) (dRet (dLst (dCons (dVar 2) (dCons (dVar 5) (dCons (dVar 7) (dCons (dVar 9) (dCons (dVar 12) (dNil))))))))))))))))))))))
/-! _law_spoil: numbers 0, cursor 1, data 2, known 3, row 4, odd 5, names 6, name 7, place 8, kind 9, at 10, calls _law_odd _law_take -/
def b__law_spoil (s__law_odd s__law_take : DSp) : DS := dSeq (dAsg (dOp oAdd (dL oList (dCons (dOp oIx (dVar 2) (dC (.int 1))) (dNil))) (dLc (dIter (dOp oIx (dVar 2) (dC (.int 3)))) (.nm 4) dYes (dOp oIx (dVar 4) (dC (.int 0))) [4])) (.nm 3)) (dSeq (dAsg (dCall s__law_odd (dCons (dCall s__law_take (dCons (dVar 0) (dCons (dVar 1) (dCons (dC (.int 19)) (dNil))))) (dCons (dVar 3) (dCons (dL oMax2 (dCons (dOp oIx (dVar 2) (dC (.int 0))) (dCons (dC (.int 1)) (dNil)))) (dNil))))) (.nm 5)) (dSeq (dAsg (dOp oAdd (dLst (dCons (dC (.str "Ab")) (dCons (dC (.str "a b")) (dCons (dC (.str "1a")) (dCons (dC (.str "abcdefg")) (dCons (dC (.str "abcdef")) (dCons (dC (.str "")) (dCons (dC (.str "pick")) (dCons (dC (.str "x_y")) (dNil)))))))))) (dSl (dVar 3) dNoPart (dPart (dC (.int 2))))) (.nm 6)) (dSeq (dAsg (dOp oIx (dVar 6) (dCall s__law_take (dCons (dVar 0) (dCons (dVar 1) (dCons (dL oLen (dCons (dVar 6) (dNil))) (dNil)))))) (.nm 7)) (dSeq (dAsg (dCall s__law_take (dCons (dVar 0) (dCons (dVar 1) (dCons (dC (.int 60)) (dNil))))) (.nm 8)) (dSeq (dAsg (dCall s__law_take (dCons (dVar 0) (dCons (dVar 1) (dCons (dC (.int 5)) (dNil))))) (.nm 9)) (dFor (dRng2 (dCons (dC (.int 1)) (dCons (dC (.int 5)) (dNil)))) (.nm 10) (dSeq (dAsg (dOp oIx (dVar 2) (dVar 10)) (.nm 4)) (dIf (dtAnd (dtB (dOp oEq (dOp oSub (dVar 10) (dC (.int 1))) (dOp oMod (dVar 9) (dC (.int 4))))) (dtB (dOp oGt (dL oLen (dCons (dVar 4) (dNil))) (dC (.int 0))))) (dSeq (dIf (dtB (dOp oEq (dVar 10) (dC (.int 1)))) (dSetIx (dVar 7) (dVar 4) (dOp oMod (dVar 8) (dL oLen (dCons (dVar 4) (dNil))))) (dNext)) (dSeq (dIf (dtB (dOp oEq (dVar 10) (dC (.int 2)))) (dSetIx (dVar 5) (dVar 4) (dOp oMod (dVar 8) (dL oLen (dCons (dVar 4) (dNil))))) (dNext)) (dSeq (dIf (dtAnd (dtB (dOp oEq (dVar 10) (dC (.int 3)))) (dtAnd (dtB (dOp oEq (dVar 9) (dC (.int 2)))) (dtB (dOp oEq (dOp oMod (dVar 8) (dC (.int 2))) (dC (.int 0)))))) (dSetIx (dTup (dCons (dVar 7) (dCons (dOp oIx (dOp oIx (dVar 4) (dOp oMod (dVar 8) (dL oLen (dCons (dVar 4) (dNil))))) (dC (.int 1))) (dNil)))) (dVar 4) (dOp oMod (dVar 8) (dL oLen (dCons (dVar 4) (dNil))))) (dNext)) (dSeq (dIf (dtAnd (dtB (dOp oEq (dVar 10) (dC (.int 3)))) (dtB (dOp oEq (dOp oMod (dVar 8) (dC (.int 2))) (dC (.int 1))))) (dSetIx (dTup (dCons (dOp oIx (dOp oIx (dVar 4) (dOp oMod (dVar 8) (dL oLen (dCons (dVar 4) (dNil))))) (dC (.int 0))) (dCons (dVar 5) (dNil)))) (dVar 4) (dOp oMod (dVar 8) (dL oLen (dCons (dVar 4) (dNil))))) (dNext)) (dIf (dtB (dOp oEq (dVar 10) (dC (.int 4)))) (dSetIx (dTup (dCons (dOp oIx (dOp oIx (dVar 4) (dOp oMod (dVar 8) (dL oLen (dCons (dVar 4) (dNil))))) (dC (.int 0))) (dCons (dVar 5) (dNil)))) (dVar 4) (dOp oMod (dVar 8) (dL oLen (dCons (dVar 4) (dNil))))) (dNext)))))) (dNext)))))))))
/-! _law_holds: text 0, data 1, told 2, row 3, -/
def b__law_holds (cl : CF) : DS := dSeq (dIf (dtOr (dtNot (dtE (dIs [.int] (dFld cl "width" (dVar 0))))) (dtOr (dtE (dIs [.bl] (dFld cl "width" (dVar 0)))) (dtB (dOp oNe (dFld cl "width" (dVar 0)) (dOp oIx (dVar 1) (dC (.int 0))))))) (dRet (dC (.bl false))) (dNext)) (dSeq (dFor (dIter (dLst (dCons (dFld cl "inputs" (dVar 0)) (dCons (dFld cl "needs" (dVar 0)) (dCons (dFld cl "lets" (dVar 0)) (dCons (dFld cl "outs" (dVar 0)) (dNil))))))) (.nm 2) (dIf (dtNot (dtE (dIs [.tup] (dVar 2)))) (dRet (dC (.bl false))) (dNext))) (dSeq (dFor (dIter (dOp oAdd (dFld cl "lets" (dVar 0)) (dFld cl "outs" (dVar 0)))) (.nm 3) (dIf (dtOr (dtNot (dtE (dIs [.tup] (dVar 3)))) (dtB (dOp oNe (dL oLen (dCons (dVar 3) (dNil))) (dC (.int 2))))) (dRet (dC (.bl false))) (dNext))) (dSeq (dIf (dtOr (dtB (dOp oNe (dFld cl "inputs" (dVar 0)) (dL oTuple (dCons (dOp oIx (dVar 1) (dC (.int 1))) (dNil))))) (dtB (dOp oNe (dFld cl "needs" (dVar 0)) (dL oTuple (dCons (dOp oIx (dVar 1) (dC (.int 2))) (dNil)))))) (dRet (dC (.bl false))) (dNext)) (dRet (dAndV (dOp oEq (dFld cl "lets" (dVar 0)) (dL oTuple (dCons (dOp oIx (dVar 1) (dC (.int 3))) (dNil)))) (dOp oEq (dFld cl "outs" (dVar 0)) (dL oTuple (dCons (dOp oIx (dVar 1) (dC (.int 4))) (dNil)))))))))
/-! law_v3: script 0, numbers 1, cursor 2, data 3, spoils 4, k 5, due 6, handed 7, line 8, text 9, row 10, e 11, calls _law_stream _law_data _law_take _law_spoil _law_due _law_holds -/
def b_law_v3 (c_Text : Addr) (s_Text : DSp) (c_BadText : Addr) (c_NoneshorterError : Addr) (c_BadBook : Addr) (sub_BadText : Value → Option Bool) (kit_NoneshorterError : Value → Option Bool) (kit_ValueError : Value → Option Bool) (kit_BadBook : Value → Option Bool) (s__law_stream s__law_data s__law_take s__law_spoil s__law_due s__law_holds : DSp) : DS := dSeq (dAsg (dCall s__law_stream (dCons (dVar 0) (dCons (dC (.int 400)) (dNil)))) (.nm 1)) (dSeq (dAsg (dLst (dCons (dC (.int 0)) (dNil))) (.nm 2)) (dSeq (dAsg (dCall s__law_data (dCons (dVar 1) (dCons (dVar 2) (dNil)))) (.nm 3)) (dSeq (dAsg (dOp oIx (dLst (dCons (dC (.int 0)) (dCons (dC (.int 0)) (dCons (dC (.int 1)) (dCons (dC (.int 2)) (dNil)))))) (dCall s__law_take (dCons (dVar 1) (dCons (dVar 2) (dCons (dC (.int 4)) (dNil)))))) (.nm 4)) (dSeq (dFor (dRng1 (dCons (dVar 4) (dNil))) (.nm 5) (dDrop (dCall s__law_spoil (dCons (dVar 1) (dCons (dVar 2) (dCons (dVar 3) (dNil))))))) (dSeq (dAsg (dCall s__law_due (dCons (dOp oIx (dVar 3) (dC (.int 0))) (dCons (dOp oIx (dVar 3) (dC (.int 1))) (dCons (dOp oIx (dVar 3) (dC (.int 2))) (dCons (dOp oIx (dVar 3) (dC (.int 3))) (dCons (dOp oIx (dVar 3) (dC (.int 4))) (dNil))))))) (.nm 6)) (dSeq (dAsg (dLst (dCons (dL oList (dCons (dOp oIx (dVar 3) (dC (.int 1))) (dNil))) (dCons (dL oList (dCons (dOp oIx (dVar 3) (dC (.int 2))) (dNil))) (dCons (dL oList (dCons (dOp oIx (dVar 3) (dC (.int 3))) (dNil))) (dCons (dL oList (dCons (dOp oIx (dVar 3) (dC (.int 4))) (dNil))) (dNil)))))) (.nm 7)) (dSeq (dAsg (dC (.int 0)) (.nm 8)) (dSeq (dAsg (dC .non) (.nm 9)) (dSeq (dTryAs sub_BadText 11 (dAsgMkX c_Text s_Text (dCons (dOp oIx (dVar 3) (dC (.int 0))) (dCons (dOp oIx (dVar 7) (dC (.int 0))) (dCons (dOp oIx (dVar 7) (dC (.int 1))) (dCons (dOp oIx (dVar 7) (dC (.int 2))) (dCons (dOp oIx (dVar 7) (dC (.int 3))) (dNil)))))) 9) (fun a cls d => dSeq (dAsg (dXf a cls d c_BadText "line" (dVar 11)) (.nm 8)) (dIf (dtOr (dtNot (dtE (dIsX kit_NoneshorterError a cls d c_BadText (dVar 11)))) (dtOr (dtNot (dtE (dIsX kit_ValueError a cls d c_BadText (dVar 11)))) (dtE (dIsX kit_BadBook a cls d c_BadText (dVar 11))))) (dRet (dC (.bl false))) (dNext)))) (dSeq (dIf (dtB (dOp oNe (dVar 7) (dLst (dCons (dOp oIx (dVar 3) (dC (.int 1))) (dCons (dOp oIx (dVar 3) (dC (.int 2))) (dCons (dOp oIx (dVar 3) (dC (.int 3))) (dCons (dOp oIx (dVar 3) (dC (.int 4))) (dNil)))))))) (dRet (dC (.bl false))) (dNext)) (dSeq (dIf (dtB (dOp oGt (dVar 6) (dC (.int 0)))) (dRet (dAndV (dIs [.int] (dVar 8)) (dAndV (dNotV (dIs [.bl] (dVar 8))) (dOp oEq (dVar 8) (dVar 6))))) (dNext)) (dSeq (dIf (dtOr (dtB (dOp oNe (dVar 8) (dC (.int 0)))) (dtNot (dtE (dCall s__law_holds (dCons (dVar 9) (dCons (dVar 3) (dNil))))))) (dRet (dC (.bl false))) (dNext)) (dSeq (dFor (dIter (dVar 7)) (.nm 10) (dDrop (dApp (dVar 10) (dTup (dCons (dC (.str "z")) (dCons (dC (.int 0)) (dNil))))))) (dRet (dCall s__law_holds (dCons (dVar 9) (dCons (dVar 3) (dNil))))))))))))))))))
/-! Text__init___v3: self 0, width 1, inputs 2, needs 3, lets 4, outs 5, name 6, formula 7, register 8, line 9, calls first_bad_line -/
def b_Text__init___v3 (cl : CF) (c_BadText : Addr) (s_first_bad_line : DSp) : DS := dSeq (dSetFld cl "width" (dVar 1) (dVar 0)) (dSeq (dSetFld cl "inputs" (dL oTuple (dCons (dVar 2) (dNil))) (dVar 0)) (dSeq (dSetFld cl "needs" (dL oTuple (dCons (dVar 3) (dNil))) (dVar 0)) (dSeq (dSetFld cl "lets" (dL oTuple (dCons (dLc (dIter (dVar 4)) (.tp [6, 7]) dYes (dTup (dCons (dVar 6) (dCons (dVar 7) (dNil)))) [6, 7]) (dNil))) (dVar 0)) (dSeq (dSetFld cl "outs" (dL oTuple (dCons (dLc (dIter (dVar 5)) (.tp [8, 7]) dYes (dTup (dCons (dVar 8) (dCons (dVar 7) (dNil)))) [8, 7]) (dNil))) (dVar 0)) (dSeq (dAsg (dCall s_first_bad_line (dCons (dVar 0) (dNil))) (.nm 9)) (dIf (dtB (dOp oGt (dVar 9) (dC (.int 0)))) (dRaise c_BadText "line" okNatD (dVar 9)) (dNext)))))))
end Bd

set_option Elab.async false
set_option linter.all false
set_option autoImplicit false
set_option maxRecDepth 100000
set_option maxHeartbeats 4000000
namespace K86
open PySem PySem.Spec PyProof.Rows L2 DH Bd
def top (i : Nat) : Stmt := PySem.Challenge.pw_noneshorter_k86_text_lines.main.body.getD i (.Pass ⟨0, 0, 0, 0⟩)
def met (i j : Nat) : Stmt := match top i with
  | .ClassDef (body := b) .. => b.getD j (.Pass ⟨0, 0, 0, 0⟩)
  | s => s
/-- the names of the top -/
structure Gb (K : PySem.W.Frag) (w : World) (mg : Str → Option Value) : Prop where
  ValueError : mg "ValueError" = none
  abs : mg "abs" = none
  bool : mg "bool" = none
  int : mg "int" = none
  isinstance : mg "isinstance" = none
  len : mg "len" = none
  list : mg "list" = none
  max : mg "max" = none
  min : mg "min" = none
  range : mg "range" = none
  str : mg "str" = none
  tuple : mg "tuple" = none
  c_ARITY : ∃ a, mg "ARITY" = some (.ref a) ∧ KdAt K w a kv_ARITY
  c_LETTERS : ∃ t, mg "LETTERS" = some (.str "abcdefghijklmnopqrstuvwxyz" t)
  c_DIGITS : ∃ t, mg "DIGITS" = some (.str "0123456789" t)
  c_MOST_DEPTH : ∃ t, mg "MOST_DEPTH" = some (.int 6 t)
  c_MOST_SIZE : ∃ t, mg "MOST_SIZE" = some (.int 15 t)
  c_MOST_LETS : ∃ t, mg "MOST_LETS" = some (.int 60 t)
  c_MOST_NEEDS : ∃ t, mg "MOST_NEEDS" = some (.int 2 t)
  c_MOST_BITS : ∃ t, mg "MOST_BITS" = some (.int 8 t)
section
variable {P : Program} {w : World} {K : PySem.W.Frag} {mg : Str → Option Value} {base : Heap} {k : Nat}
def nm_word_limit : List Str := ["width"]
theorem sc_word_limit : FnScope nm_word_limit ["width"] (defScope (top 6)) := ⟨rfl, rfl, rfl, by decide +kernel, rfl, by decide +kernel, by decide +kernel⟩
theorem d_word_limit (G : Gb K w mg) (T : Top K mg "word_limit" (top 6)) {sp : DSp} (len : ∀ ds M Q E, sp ds M Q E → ds.length = 1)
    (hq : ∀ ds M Q E, sp ds M Q E → b_word_limit { nx := fun _ M' => Q .non M', rt := Q } (startD 1 ds) M) : Cal P w K mg base (k + 1) "word_limit" ["width"] sp := by
  refine cal_mk (N := nm_word_limit) T sc_word_limit (fun _ _ _ _ _ _ us hl => match us, hl with | [_], _ => rfl) (fun f cdv A outer s H E hr => ?_) len hq
  have hu := hu66 hr
  have hu1 := hu_of hr
  exact rss_one (rs_ret (re_shl (re_int) (re_var 0 (pv 0))))
def nm_is_name : List Str := ["name", "char"]
theorem sc_is_name : FnScope nm_is_name ["name"] (defScope (top 11)) := ⟨rfl, rfl, rfl, by decide +kernel, rfl, by decide +kernel, by decide +kernel⟩
theorem d_is_name (G : Gb K w mg) (T : Top K mg "is_name" (top 11)) {sp : DSp} (len : ∀ ds M Q E, sp ds M Q E → ds.length = 1)
    (hq : ∀ ds M Q E, sp ds M Q E → b_is_name { nx := fun _ M' => Q .non M', rt := Q } (startD 2 ds) M) : Cal P w K mg base (k + 1) "is_name" ["name"] sp := by
  refine cal_mk (N := nm_is_name) T sc_is_name (fun _ _ _ _ _ _ us hl => match us, hl with | [_], _ => rfl) (fun f cdv A outer s H E hr => ?_) len hq
  have hu := hu66 hr
  have hu1 := hu_of hr
  exact rss_cons (rs_if (PW.pt (rw_or (rt_not (rt_chain (op_le) (rr_le) (op_le) (rr_le) (re_int) (re_callB rl_len call_lenA rfl G.len (by decide +kernel) (ra_cons (re_var 0 (pv 0)) (ra_nil))) (re_int))) (rw_or1 (rt_cmp (op_notInA hu1) (rr_in (neg := true)) (re_ix (ix_all hu1) rr_ix (re_var 0 (pv 0)) (re_int) (fun _ _ => rfl)) (re_gstr G.c_LETTERS) rfl)))) (rss_one (rs_ret (re_bl))) (rss_nil)) (rss_cons (rs_for PassesOwn.never rfl (ri_val (re_var 0 (pv 0))) (ptg_name (pg_name (i := 1) sc_is_name.nd rfl (by first | exact .inl rfl | exact .inr rfl))) (rss_one (rs_if (PW.pt (rw_and (rt_cmp (op_notInA hu1) (rr_in (neg := true)) (re_var 1 (pv 1)) (re_gstr G.c_LETTERS) rfl) (rw_and1 (rt_cmp (op_notInA hu1) (rr_in (neg := true)) (re_var 1 (pv 1)) (re_gstr G.c_DIGITS) rfl)))) (rss_one (rs_ret (re_bl))) (rss_nil)))) (rss_one (rs_ret (re_bl))))
def nm_is_value_name : List Str := ["name"]
theorem sc_is_value_name : FnScope nm_is_value_name ["name"] (defScope (top 12)) := ⟨rfl, rfl, rfl, by decide +kernel, rfl, by decide +kernel, by decide +kernel⟩
theorem d_is_value_name {s_is_name : DSp} (G : Gb K w mg) (C_is_name : Cal P w K mg base k "is_name" ["name"] s_is_name) (T : Top K mg "is_value_name" (top 12)) {sp : DSp} (len : ∀ ds M Q E, sp ds M Q E → ds.length = 1)
    (hq : ∀ ds M Q E, sp ds M Q E → b_is_value_name s_is_name { nx := fun _ M' => Q .non M', rt := Q } (startD 1 ds) M) : Cal P w K mg base (k + 1) "is_value_name" ["name"] sp := by
  refine cal_mk (N := nm_is_value_name) T sc_is_value_name (fun _ _ _ _ _ _ us hl => match us, hl with | [_], _ => rfl) (fun f cdv A outer s H E hr => ?_) len hq
  have hu := hu66 hr
  have hu1 := hu_of hr
  exact rss_one (rs_ret (re_and (re_cal C_is_name hr (ra_cons (re_var 0 (pv 0)) (ra_nil))) (re_one (re_cmp (op_notInA hu1) (rr_in (neg := true)) (re_var 0 (pv 0)) (re_gkd G.c_ARITY) rfl))))
def nm_formula_size : List Str := ["formula", "total", "part"]
theorem sc_formula_size : FnScope nm_formula_size ["formula"] (defScope (top 13)) := ⟨rfl, rfl, rfl, by decide +kernel, rfl, by decide +kernel, by decide +kernel⟩
theorem d_formula_size {s_formula_size : DSp} (G : Gb K w mg) (C_formula_size : Cal P w K mg base k "formula_size" ["formula"] s_formula_size) (T : Top K mg "formula_size" (top 13)) {sp : DSp} (len : ∀ ds M Q E, sp ds M Q E → ds.length = 1)
    (hq : ∀ ds M Q E, sp ds M Q E → b_formula_size s_formula_size { nx := fun _ M' => Q .non M', rt := Q } (startD 3 ds) M) : Cal P w K mg base (k + 1) "formula_size" ["formula"] sp := by
  refine cal_mk (N := nm_formula_size) T sc_formula_size (fun _ _ _ _ _ _ us hl => match us, hl with | [_], _ => rfl) (fun f cdv A outer s H E hr => ?_) len hq
  have hu := hu66 hr
  have hu1 := hu_of hr
  exact rss_cons (rs_if (rt_val (re_isi2 .int .str (re_var 0 (pv 0)) (pe_ty .int G.int) (pe_ty .str G.str) rfl G.isinstance)) (rss_one (rs_ret (re_int))) (rss_nil)) (rss_cons (rs_set (i := 1) sc_formula_size.nd rfl (by first | exact .inl rfl | exact .inr rfl) (re_int)) (rss_cons (rs_for PassesOwn.never rfl (ri_val (re_slice (re_var 0 (pv 0)) (ro_some (re_int)) ro_none)) (ptg_name (pg_name (i := 2) sc_formula_size.nd rfl (by first | exact .inl rfl | exact .inr rfl))) (rss_one (rs_set (i := 1) sc_formula_size.nd rfl (by first | exact .inl rfl | exact .inr rfl) (re_add (re_var 1 (pv 1)) (re_cal C_formula_size hr (ra_cons (re_var 2 (pv 2)) (ra_nil))))))) (rss_one (rs_ret (re_var 1 (pv 1))))))
def nm_is_shaped : List Str := ["formula", "width", "names", "depth", "part"]
theorem sc_is_shaped : FnScope nm_is_shaped ["formula", "width", "names", "depth"] (defScope (top 14)) := ⟨rfl, rfl, rfl, by decide +kernel, rfl, by decide +kernel, by decide +kernel⟩
theorem d_is_shaped {s_word_limit s_is_shaped : DSp} (G : Gb K w mg) (C_word_limit : Cal P w K mg base k "word_limit" ["width"] s_word_limit) (C_is_shaped : Cal P w K mg base k "is_shaped" ["formula", "width", "names", "depth"] s_is_shaped) (T : Top K mg "is_shaped" (top 14)) {sp : DSp} (len : ∀ ds M Q E, sp ds M Q E → ds.length = 4)
    (hq : ∀ ds M Q E, sp ds M Q E → b_is_shaped s_word_limit s_is_shaped { nx := fun _ M' => Q .non M', rt := Q } (startD 5 ds) M) : Cal P w K mg base (k + 1) "is_shaped" ["formula", "width", "names", "depth"] sp := by
  refine cal_mk (N := nm_is_shaped) T sc_is_shaped (fun _ _ _ _ _ _ us hl => match us, hl with | [_, _, _, _], _ => rfl) (fun f cdv A outer s H E hr => ?_) len hq
  have hu := hu66 hr
  have hu1 := hu_of hr
  exact rss_cons (rs_if (rt_val (re_isi .int (re_var 0 (pv 0)) (pe_ty .int G.int) rfl G.isinstance)) (rss_one (rs_ret (re_chain (op_le) (rr_le) (op_lt) (rr_lt) (re_int) (re_var 0 (pv 0)) (re_cal C_word_limit hr (ra_cons (re_var 1 (pv 1)) (ra_nil)))))) (rss_nil)) (rss_cons (rs_if (rt_val (re_isi .str (re_var 0 (pv 0)) (pe_ty .str G.str) rfl G.isinstance)) (rss_one (rs_ret (re_cmp (op_inA hu1) (rr_in (neg := false)) (re_var 0 (pv 0)) (re_var 2 (pv 2)) rfl))) (rss_nil)) (rss_cons (rs_if (PW.pt (rw_or (rt_cmp (op_eqA hu) (rr_eq) (re_var 3 (pv 3)) (re_int) (nomark _)) (rw_or (rt_cmp (op_eqA hu) (rr_eq) (re_callB rl_len call_lenA rfl G.len (by decide +kernel) (ra_cons (re_var 0 (pv 0)) (ra_nil))) (re_int) (nomark _)) (rw_or1 (rt_not (rt_val (re_isi .str (re_ix (ix_all hu1) rr_ix (re_var 0 (pv 0)) (re_int) (fun _ _ => rfl)) (pe_ty .str G.str) rfl G.isinstance))))))) (rss_one (rs_ret (re_bl))) (rss_nil)) (rss_cons (rs_if (PW.pt (rw_or (rt_cmp (op_notInA hu1) (rr_in (neg := true)) (re_ix (ix_all hu1) rr_ix (re_var 0 (pv 0)) (re_int) (fun _ _ => rfl)) (re_gkd G.c_ARITY) rfl) (rw_or1 (rt_cmp (op_neA hu) (rr_ne) (re_callB rl_len call_lenA rfl G.len (by decide +kernel) (ra_cons (re_var 0 (pv 0)) (ra_nil))) (re_add (re_int) (re_ix (ix_all hu1) rr_ix (re_gkd G.c_ARITY) (re_ix (ix_all hu1) rr_ix (re_var 0 (pv 0)) (re_int) (fun _ _ => rfl)) (fun _ _ => rfl))) (nomark _))))) (rss_one (rs_ret (re_bl))) (rss_nil)) (rss_cons (rs_for PassesOwn.never rfl (ri_val (re_slice (re_var 0 (pv 0)) (ro_some (re_int)) ro_none)) (ptg_name (pg_name (i := 4) sc_is_shaped.nd rfl (by first | exact .inl rfl | exact .inr rfl))) (rss_one (rs_if (rt_not (rt_val (re_cal C_is_shaped hr (ra_cons (re_var 4 (pv 4)) (ra_cons (re_var 1 (pv 1)) (ra_cons (re_var 2 (pv 2)) (ra_cons (re_sub (re_var 3 (pv 3)) (re_int)) (ra_nil)))))))) (rss_one (rs_ret (re_bl))) (rss_nil)))) (rss_one (rs_ret (re_bl)))))))
def nm_is_formula : List Str := ["formula", "width", "names", "most"]
theorem sc_is_formula : FnScope nm_is_formula ["formula", "width", "names", "most"] (defScope (top 15)) := ⟨rfl, rfl, rfl, by decide +kernel, rfl, by decide +kernel, by decide +kernel⟩
theorem d_is_formula {s_is_shaped s_formula_size : DSp} (G : Gb K w mg) (C_is_shaped : Cal P w K mg base k "is_shaped" ["formula", "width", "names", "depth"] s_is_shaped) (C_formula_size : Cal P w K mg base k "formula_size" ["formula"] s_formula_size) (T : Top K mg "is_formula" (top 15)) {sp : DSp} (len : ∀ ds M Q E, sp ds M Q E → ds.length = 4)
    (hq : ∀ ds M Q E, sp ds M Q E → b_is_formula s_is_shaped s_formula_size { nx := fun _ M' => Q .non M', rt := Q } (startD 4 ds) M) : Cal P w K mg base (k + 1) "is_formula" ["formula", "width", "names", "most"] sp := by
  refine cal_mk (N := nm_is_formula) T sc_is_formula (fun _ _ _ _ _ _ us hl => match us, hl with | [_, _, _, _], _ => rfl) (fun f cdv A outer s H E hr => ?_) len hq
  have hu := hu66 hr
  have hu1 := hu_of hr
  exact rss_one (rs_ret (re_and (re_cal C_is_shaped hr (ra_cons (re_var 0 (pv 0)) (ra_cons (re_var 1 (pv 1)) (ra_cons (re_var 2 (pv 2)) (ra_cons (re_gint G.c_MOST_DEPTH) (ra_nil)))))) (re_one (re_cmp (op_le) (rr_le) (re_cal C_formula_size hr (ra_cons (re_var 0 (pv 0)) (ra_nil))) (re_var 3 (pv 3)) (nomark _)))))
def nm_bad_input : List Str := ["text", "at", "name"]
theorem sc_bad_input : FnScope nm_bad_input ["text", "at"] (defScope (top 22)) := ⟨rfl, rfl, rfl, by decide +kernel, rfl, by decide +kernel, by decide +kernel⟩
theorem d_bad_input {cl : CF} {s_is_value_name : DSp} (G : Gb K w mg) (hcl : CfOk K cl) (C_is_value_name : Cal P w K mg base k "is_value_name" ["name"] s_is_value_name) (T : Top K mg "bad_input" (top 22)) {sp : DSp} (len : ∀ ds M Q E, sp ds M Q E → ds.length = 2)
    (hq : ∀ ds M Q E, sp ds M Q E → b_bad_input cl s_is_value_name { nx := fun _ M' => Q .non M', rt := Q } (startD 3 ds) M) : Cal P w K mg base (k + 1) "bad_input" ["text", "at"] sp := by
  refine cal_mk (N := nm_bad_input) T sc_bad_input (fun _ _ _ _ _ _ us hl => match us, hl with | [_, _], _ => rfl) (fun f cdv A outer s H E hr => ?_) len hq
  have hu := hu66 hr
  have hu1 := hu_of hr
  exact rss_cons (rs_set (i := 2) sc_bad_input.nd rfl (by first | exact .inl rfl | exact .inr rfl) (re_ix (ix_all hu1) rr_ix (re_fld hcl (re_var 0 (pv 0))) (re_var 1 (pv 1)) (fun _ _ => rfl))) (rss_cons (rs_if (PW.pt (rw_or (rt_not (rt_val (re_cal C_is_value_name hr (ra_cons (re_var 2 (pv 2)) (ra_nil))))) (rw_or1 (rt_cmp (op_inA hu1) (rr_in (neg := false)) (re_var 2 (pv 2)) (re_slice (re_fld hcl (re_var 0 (pv 0))) ro_none (ro_some (re_var 1 (pv 1)))) rfl)))) (rss_one (rs_ret (re_bl))) (rss_nil)) (rss_one (rs_ret (re_or (re_cmp (op_ge) (rr_ge) (re_var 1 (pv 1)) (re_int) (nomark _)) (re_one (re_cmp (op_gt) (rr_gt) (re_mul (re_fld hcl (re_var 0 (pv 0))) (re_add (re_var 1 (pv 1)) (re_int))) (re_gint G.c_MOST_BITS) (nomark _)))))))
def nm_bad_let : List Str := ["text", "at", "name", "formula", "known", "row"]
theorem sc_bad_let : FnScope nm_bad_let ["text", "at"] (defScope (top 23)) := ⟨rfl, rfl, rfl, by decide +kernel, rfl, by decide +kernel, by decide +kernel⟩
theorem d_bad_let {cl : CF} {s_is_value_name s_is_formula : DSp} (G : Gb K w mg) (hcl : CfOk K cl) (C_is_value_name : Cal P w K mg base k "is_value_name" ["name"] s_is_value_name) (C_is_formula : Cal P w K mg base k "is_formula" ["formula", "width", "names", "most"] s_is_formula) (T : Top K mg "bad_let" (top 23)) {sp : DSp} (len : ∀ ds M Q E, sp ds M Q E → ds.length = 2)
    (hq : ∀ ds M Q E, sp ds M Q E → b_bad_let cl s_is_value_name s_is_formula { nx := fun _ M' => Q .non M', rt := Q } (startD 6 ds) M) : Cal P w K mg base (k + 1) "bad_let" ["text", "at"] sp := by
  refine cal_mk (N := nm_bad_let) T sc_bad_let (fun _ _ _ _ _ _ us hl => match us, hl with | [_, _], _ => rfl) (fun f cdv A outer s H E hr => ?_) len hq
  have hu := hu66 hr
  have hu1 := hu_of hr
  exact rss_cons (rs_asg (re_ix (ix_all hu1) rr_ix (re_fld hcl (re_var 0 (pv 0))) (re_var 1 (pv 1)) (fun _ _ => rfl)) (ptg_two rfl (pg_name (i := 2) sc_bad_let.nd rfl (by first | exact .inl rfl | exact .inr rfl)) (pg_name (i := 3) sc_bad_let.nd rfl (by first | exact .inl rfl | exact .inr rfl)))) (rss_cons (rs_set (i := 4) sc_bad_let.nd rfl (by first | exact .inl rfl | exact .inr rfl) (re_add (re_callTy rl_list call_list_of rfl G.list (by decide +kernel) (ra_cons (re_fld hcl (re_var 0 (pv 0))) (ra_nil))) (re_lc (own := [("row", 5)]) rfl sc_bad_let.nd (ri_val (re_slice (re_fld hcl (re_var 0 (pv 0))) ro_none (ro_some (re_var 1 (pv 1))))) (blkOk_by (own := [("row", 5)]) (N := nm_bad_let) (sc := defScope (top 23)) (by decide +kernel)) (by decide) (fun _ _ _ _ _ => (ptg_name (pg_name (i := 5) sc_bad_let.nd rfl (by first | exact .inl rfl | exact .inr rfl)))) (fun _ _ _ _ _ => rts_nil) (fun _ _ _ _ _ => re_ix (ix_all hu1) rr_ix (re_var 5 (pv 5)) (re_int) (fun _ _ => rfl))))) (rss_cons (rs_if (PW.pt (rw_or (rt_not (rt_val (re_cal C_is_value_name hr (ra_cons (re_var 2 (pv 2)) (ra_nil))))) (rw_or (rt_cmp (op_inA hu1) (rr_in (neg := false)) (re_var 2 (pv 2)) (re_var 4 (pv 4)) rfl) (rw_or1 (rt_cmp (op_ge) (rr_ge) (re_var 1 (pv 1)) (re_gint G.c_MOST_LETS) (nomark _)))))) (rss_one (rs_ret (re_bl))) (rss_nil)) (rss_one (rs_ret (re_not (re_cal C_is_formula hr (ra_cons (re_var 3 (pv 3)) (ra_cons (re_fld hcl (re_var 0 (pv 0))) (ra_cons (re_var 4 (pv 4)) (ra_cons (re_gint G.c_MOST_SIZE) (ra_nil)))))))))))
def nm_bad_out : List Str := ["text", "at", "register", "formula", "known", "row"]
theorem sc_bad_out : FnScope nm_bad_out ["text", "at"] (defScope (top 24)) := ⟨rfl, rfl, rfl, by decide +kernel, rfl, by decide +kernel, by decide +kernel⟩
theorem d_bad_out {cl : CF} {s_is_formula : DSp} (G : Gb K w mg) (hcl : CfOk K cl) (C_is_formula : Cal P w K mg base k "is_formula" ["formula", "width", "names", "most"] s_is_formula) (T : Top K mg "bad_out" (top 24)) {sp : DSp} (len : ∀ ds M Q E, sp ds M Q E → ds.length = 2)
    (hq : ∀ ds M Q E, sp ds M Q E → b_bad_out cl s_is_formula { nx := fun _ M' => Q .non M', rt := Q } (startD 6 ds) M) : Cal P w K mg base (k + 1) "bad_out" ["text", "at"] sp := by
  refine cal_mk (N := nm_bad_out) T sc_bad_out (fun _ _ _ _ _ _ us hl => match us, hl with | [_, _], _ => rfl) (fun f cdv A outer s H E hr => ?_) len hq
  have hu := hu66 hr
  have hu1 := hu_of hr
  exact rss_cons (rs_asg (re_ix (ix_all hu1) rr_ix (re_fld hcl (re_var 0 (pv 0))) (re_var 1 (pv 1)) (fun _ _ => rfl)) (ptg_two rfl (pg_name (i := 2) sc_bad_out.nd rfl (by first | exact .inl rfl | exact .inr rfl)) (pg_name (i := 3) sc_bad_out.nd rfl (by first | exact .inl rfl | exact .inr rfl)))) (rss_cons (rs_set (i := 4) sc_bad_out.nd rfl (by first | exact .inl rfl | exact .inr rfl) (re_add (re_callTy rl_list call_list_of rfl G.list (by decide +kernel) (ra_cons (re_fld hcl (re_var 0 (pv 0))) (ra_nil))) (re_lc (own := [("row", 5)]) rfl sc_bad_out.nd (ri_val (re_fld hcl (re_var 0 (pv 0)))) (blkOk_by (own := [("row", 5)]) (N := nm_bad_out) (sc := defScope (top 24)) (by decide +kernel)) (by decide) (fun _ _ _ _ _ => (ptg_name (pg_name (i := 5) sc_bad_out.nd rfl (by first | exact .inl rfl | exact .inr rfl)))) (fun _ _ _ _ _ => rts_nil) (fun _ _ _ _ _ => re_ix (ix_all hu1) rr_ix (re_var 5 (pv 5)) (re_int) (fun _ _ => rfl))))) (rss_cons (rs_if (PW.pt (rw_or (rt_not (rt_chain (op_le) (rr_le) (op_le) (rr_le) (re_int) (re_var 2 (pv 2)) (re_int))) (rw_or1 (PW.pt (rw_and (rt_cmp (op_gt) (rr_gt) (re_var 1 (pv 1)) (re_int) (nomark _)) (rw_and1 (rt_cmp (op_le) (rr_le) (re_var 2 (pv 2)) (re_ix (ix_all hu1) rr_ix (re_ix (ix_all hu1) rr_ix (re_fld hcl (re_var 0 (pv 0))) (re_sub (re_var 1 (pv 1)) (re_int)) (fun _ _ => rfl)) (re_int) (fun _ _ => rfl)) (nomark _)))))))) (rss_one (rs_ret (re_bl))) (rss_nil)) (rss_one (rs_ret (re_not (re_cal C_is_formula hr (ra_cons (re_var 3 (pv 3)) (ra_cons (re_fld hcl (re_var 0 (pv 0))) (ra_cons (re_var 4 (pv 4)) (ra_cons (re_gint G.c_MOST_SIZE) (ra_nil)))))))))))
def nm_first_bad_line : List Str := ["text", "line", "at"]
theorem sc_first_bad_line : FnScope nm_first_bad_line ["text"] (defScope (top 25)) := ⟨rfl, rfl, rfl, by decide +kernel, rfl, by decide +kernel, by decide +kernel⟩
theorem d_first_bad_line {cl : CF} {s_bad_input s_is_formula s_bad_let s_bad_out : DSp} (G : Gb K w mg) (hcl : CfOk K cl) (C_bad_input : Cal P w K mg base k "bad_input" ["text", "at"] s_bad_input) (C_is_formula : Cal P w K mg base k "is_formula" ["formula", "width", "names", "most"] s_is_formula) (C_bad_let : Cal P w K mg base k "bad_let" ["text", "at"] s_bad_let) (C_bad_out : Cal P w K mg base k "bad_out" ["text", "at"] s_bad_out) (T : Top K mg "first_bad_line" (top 25)) {sp : DSp} (len : ∀ ds M Q E, sp ds M Q E → ds.length = 1)
    (hq : ∀ ds M Q E, sp ds M Q E → b_first_bad_line cl s_bad_input s_is_formula s_bad_let s_bad_out { nx := fun _ M' => Q .non M', rt := Q } (startD 3 ds) M) : Cal P w K mg base (k + 1) "first_bad_line" ["text"] sp := by
  refine cal_mk (N := nm_first_bad_line) T sc_first_bad_line (fun _ _ _ _ _ _ us hl => match us, hl with | [_], _ => rfl) (fun f cdv A outer s H E hr => ?_) len hq
  have hu := hu66 hr
  have hu1 := hu_of hr
  exact rss_cons (rs_if (rt_not (rt_chain (op_le) (rr_le) (op_le) (rr_le) (re_int) (re_fld hcl (re_var 0 (pv 0))) (re_int))) (rss_one (rs_ret (re_int))) (rss_nil)) (rss_cons (rs_set (i := 1) sc_first_bad_line.nd rfl (by first | exact .inl rfl | exact .inr rfl) (re_int)) (rss_cons (rs_for PassesOwn.never rfl (ri_rng1 rfl G.range (ra_cons (re_callB rl_len call_lenA rfl G.len (by decide +kernel) (ra_cons (re_fld hcl (re_var 0 (pv 0))) (ra_nil))) (ra_nil))) (ptg_name (pg_name (i := 2) sc_first_bad_line.nd rfl (by first | exact .inl rfl | exact .inr rfl))) (rss_cons (rs_augAdd (i := 1) sc_first_bad_line.nd rfl (by first | exact .inl rfl | exact .inr rfl) (re_int)) (rss_one (rs_if (rt_val (re_cal C_bad_input hr (ra_cons (re_var 0 (pv 0)) (ra_cons (re_var 2 (pv 2)) (ra_nil))))) (rss_one (rs_ret (re_var 1 (pv 1)))) (rss_nil))))) (rss_cons (rs_for PassesOwn.never rfl (ri_rng1 rfl G.range (ra_cons (re_callB rl_len call_lenA rfl G.len (by decide +kernel) (ra_cons (re_fld hcl (re_var 0 (pv 0))) (ra_nil))) (ra_nil))) (ptg_name (pg_name (i := 2) sc_first_bad_line.nd rfl (by first | exact .inl rfl | exact .inr rfl))) (rss_cons (rs_augAdd (i := 1) sc_first_bad_line.nd rfl (by first | exact .inl rfl | exact .inr rfl) (re_int)) (rss_one (rs_if (PW.pt (rw_or (rt_cmp (op_ge) (rr_ge) (re_var 2 (pv 2)) (re_gint G.c_MOST_NEEDS) (nomark _)) (rw_or1 (rt_not (rt_val (re_cal C_is_formula hr (ra_cons (re_ix (ix_all hu1) rr_ix (re_fld hcl (re_var 0 (pv 0))) (re_var 2 (pv 2)) (fun _ _ => rfl)) (ra_cons (re_fld hcl (re_var 0 (pv 0))) (ra_cons (re_fld hcl (re_var 0 (pv 0))) (ra_cons (re_gint G.c_MOST_SIZE) (ra_nil))))))))))) (rss_one (rs_ret (re_var 1 (pv 1)))) (rss_nil))))) (rss_cons (rs_for PassesOwn.never rfl (ri_rng1 rfl G.range (ra_cons (re_callB rl_len call_lenA rfl G.len (by decide +kernel) (ra_cons (re_fld hcl (re_var 0 (pv 0))) (ra_nil))) (ra_nil))) (ptg_name (pg_name (i := 2) sc_first_bad_line.nd rfl (by first | exact .inl rfl | exact .inr rfl))) (rss_cons (rs_augAdd (i := 1) sc_first_bad_line.nd rfl (by first | exact .inl rfl | exact .inr rfl) (re_int)) (rss_one (rs_if (rt_val (re_cal C_bad_let hr (ra_cons (re_var 0 (pv 0)) (ra_cons (re_var 2 (pv 2)) (ra_nil))))) (rss_one (rs_ret (re_var 1 (pv 1)))) (rss_nil))))) (rss_cons (rs_for PassesOwn.never rfl (ri_rng1 rfl G.range (ra_cons (re_callB rl_len call_lenA rfl G.len (by decide +kernel) (ra_cons (re_fld hcl (re_var 0 (pv 0))) (ra_nil))) (ra_nil))) (ptg_name (pg_name (i := 2) sc_first_bad_line.nd rfl (by first | exact .inl rfl | exact .inr rfl))) (rss_cons (rs_augAdd (i := 1) sc_first_bad_line.nd rfl (by first | exact .inl rfl | exact .inr rfl) (re_int)) (rss_one (rs_if (rt_val (re_cal C_bad_out hr (ra_cons (re_var 0 (pv 0)) (ra_cons (re_var 2 (pv 2)) (ra_nil))))) (rss_one (rs_ret (re_var 1 (pv 1)))) (rss_nil))))) (rss_one (rs_ret (re_int))))))))
def nm__law_mix : List Str := ["number", "k"]
theorem sc__law_mix : FnScope nm__law_mix ["number", "k"] (defScope (top 27)) := ⟨rfl, rfl, rfl, by decide +kernel, rfl, by decide +kernel, by decide +kernel⟩
theorem d__law_mix (G : Gb K w mg) (T : Top K mg "_law_mix" (top 27)) {sp : DSp} (len : ∀ ds M Q E, sp ds M Q E → ds.length = 2)
    (hq : ∀ ds M Q E, sp ds M Q E → b__law_mix { nx := fun _ M' => Q .non M', rt := Q } (startD 2 ds) M) : Cal P w K mg base (k + 1) "_law_mix" ["number", "k"] sp := by
  refine cal_mk (N := nm__law_mix) T sc__law_mix (fun _ _ _ _ _ _ us hl => match us, hl with | [_, _], _ => rfl) (fun f cdv A outer s H E hr => ?_) len hq
  have hu := hu66 hr
  have hu1 := hu_of hr
  exact rss_cons (rs_set (i := 0) sc__law_mix.nd rfl (by first | exact .inl rfl | exact .inr rfl) (re_mod (re_add (re_add (re_mul (re_callTy rl_int1 call_int1 rfl G.int (by decide +kernel) (ra_cons (re_var 0 (pv 0)) (ra_nil))) (re_int)) (re_mul (re_var 1 (pv 1)) (re_int))) (re_int)) (re_int))) (rss_one (rs_ret (re_mod (re_add (re_add (re_mul (re_var 0 (pv 0)) (re_int)) (re_mul (re_var 1 (pv 1)) (re_int))) (re_int)) (re_int))))
def nm__law_stream : List Str := ["script", "many", "numbers", "last", "k", "cell", "j"]
theorem sc__law_stream : FnScope nm__law_stream ["script", "many"] (defScope (top 28)) := ⟨rfl, rfl, rfl, by decide +kernel, rfl, by decide +kernel, by decide +kernel⟩
theorem d__law_stream {s__law_mix : DSp} (G : Gb K w mg) (C__law_mix : Cal P w K mg base k "_law_mix" ["number", "k"] s__law_mix) (T : Top K mg "_law_stream" (top 28)) {sp : DSp} (len : ∀ ds M Q E, sp ds M Q E → ds.length = 2)
    (hq : ∀ ds M Q E, sp ds M Q E → b__law_stream s__law_mix { nx := fun _ M' => Q .non M', rt := Q } (startD 7 ds) M) : Cal P w K mg base (k + 1) "_law_stream" ["script", "many"] sp := by
  refine cal_mk (N := nm__law_stream) T sc__law_stream (fun _ _ _ _ _ _ us hl => match us, hl with | [_, _], _ => rfl) (fun f cdv A outer s H E hr => ?_) len hq
  have hu := hu66 hr
  have hu1 := hu_of hr
  exact rss_cons (rs_set (i := 2) sc__law_stream.nd rfl (by first | exact .inl rfl | exact .inr rfl) (re_lst (ra_nil))) (rss_cons (rs_set (i := 3) sc__law_stream.nd rfl (by first | exact .inl rfl | exact .inr rfl) (re_int)) (rss_cons (rs_for PassesOwn.never rfl (ri_rng1 rfl G.range (ra_cons (re_callB rl_min2 (call_min2 rfl) rfl G.min (by decide +kernel) (ra_cons (re_int) (ra_cons (re_callB rl_len call_lenA rfl G.len (by decide +kernel) (ra_cons (re_var 0 (pv 0)) (ra_nil))) (ra_nil)))) (ra_nil))) (ptg_name (pg_name (i := 4) sc__law_stream.nd rfl (by first | exact .inl rfl | exact .inr rfl))) (rss_cons (rs_set (i := 5) sc__law_stream.nd rfl (by first | exact .inl rfl | exact .inr rfl) (re_callB rl_abs call_abs rfl G.abs (by decide +kernel) (ra_cons (re_callTy rl_int1 call_int1 rfl G.int (by decide +kernel) (ra_cons (re_ix (ix_all hu1) rr_ix (re_var 0 (pv 0)) (re_var 4 (pv 4)) (fun _ _ => rfl)) (ra_nil))) (ra_nil)))) (rss_cons (rs_set (i := 3) sc__law_stream.nd rfl (by first | exact .inl rfl | exact .inr rfl) (re_cal C__law_mix hr (ra_cons (re_add (re_var 3 (pv 3)) (re_mod (re_var 5 (pv 5)) (re_int))) (ra_cons (re_var 4 (pv 4)) (ra_nil))))) (rss_one (rs_if (rt_cmp (op_ge) (rr_ge) (re_var 5 (pv 5)) (re_pow (re_int) (re_int)) (nomark _)) (rss_one (rs_for PassesOwn.never rfl (ri_rng1 rfl G.range (ra_cons (re_int) (ra_nil))) (ptg_name (pg_name (i := 6) sc__law_stream.nd rfl (by first | exact .inl rfl | exact .inr rfl))) (rss_one (rs_if (rt_cmp (op_gt) (rr_gt) (re_var 5 (pv 5)) (re_int) (nomark _)) (rss_cons (rs_expr (re_append (re_var 2 (pv 2)) (re_mod (re_var 5 (pv 5)) (re_int)))) (rss_one (rs_set (i := 5) sc__law_stream.nd rfl (by first | exact .inl rfl | exact .inr rfl) (re_fdiv (re_var 5 (pv 5)) (re_int))))) (rss_nil))))) (rss_one (rs_expr (re_append (re_var 2 (pv 2)) (re_mod (re_cal C__law_mix hr (ra_cons (re_var 5 (pv 5)) (ra_cons (re_var 4 (pv 4)) (ra_nil)))) (re_int)))))))))) (rss_cons (rs_for PassesOwn.never rfl (ri_rng1 rfl G.range (ra_cons (re_var 1 (pv 1)) (ra_nil))) (ptg_name (pg_name (i := 4) sc__law_stream.nd rfl (by first | exact .inl rfl | exact .inr rfl))) (rss_one (rs_if (rt_cmp (op_lt) (rr_lt) (re_callB rl_len call_lenA rfl G.len (by decide +kernel) (ra_cons (re_var 2 (pv 2)) (ra_nil))) (re_var 1 (pv 1)) (nomark _)) (rss_cons (rs_set (i := 3) sc__law_stream.nd rfl (by first | exact .inl rfl | exact .inr rfl) (re_cal C__law_mix hr (ra_cons (re_var 3 (pv 3)) (ra_cons (re_callB rl_len call_lenA rfl G.len (by decide +kernel) (ra_cons (re_var 2 (pv 2)) (ra_nil))) (ra_nil))))) (rss_one (rs_expr (re_append (re_var 2 (pv 2)) (re_mod (re_var 3 (pv 3)) (re_int)))))) (rss_nil)))) (rss_one (rs_ret (re_var 2 (pv 2)))))))
def nm__law_take : List Str := ["numbers", "cursor", "many", "number"]
theorem sc__law_take : FnScope nm__law_take ["numbers", "cursor", "many"] (defScope (top 29)) := ⟨rfl, rfl, rfl, by decide +kernel, rfl, by decide +kernel, by decide +kernel⟩
theorem d__law_take (G : Gb K w mg) (T : Top K mg "_law_take" (top 29)) {sp : DSp} (len : ∀ ds M Q E, sp ds M Q E → ds.length = 3)
    (hq : ∀ ds M Q E, sp ds M Q E → b__law_take { nx := fun _ M' => Q .non M', rt := Q } (startD 4 ds) M) : Cal P w K mg base (k + 1) "_law_take" ["numbers", "cursor", "many"] sp := by
  refine cal_mk (N := nm__law_take) T sc__law_take (fun _ _ _ _ _ _ us hl => match us, hl with | [_, _, _], _ => rfl) (fun f cdv A outer s H E hr => ?_) len hq
  have hu := hu66 hr
  have hu1 := hu_of hr
  exact rss_cons (rs_set (i := 3) sc__law_take.nd rfl (by first | exact .inl rfl | exact .inr rfl) (re_ix (ix_all hu1) rr_ix (re_var 0 (pv 0)) (re_mod (re_ix (ix_all hu1) rr_ix (re_var 1 (pv 1)) (re_int) (fun _ _ => rfl)) (re_callB rl_len call_lenA rfl G.len (by decide +kernel) (ra_cons (re_var 0 (pv 0)) (ra_nil)))) (fun _ _ => rfl))) (rss_cons (rs_setIx hu1 (re_var 1 (pv 1)) (re_int) (re_add (re_ix (ix_all hu1) rr_ix (re_var 1 (pv 1)) (re_int) (fun _ _ => rfl)) (re_int))) (rss_one (rs_ret (re_mod (re_callTy rl_int1 call_int1 rfl G.int (by decide +kernel) (ra_cons (re_var 3 (pv 3)) (ra_nil))) (re_var 2 (pv 2))))))
def nm__law_name : List Str := ["numbers", "cursor", "at", "plain", "letters", "name", "k"]
theorem sc__law_name : FnScope nm__law_name ["numbers", "cursor", "at", "plain"] (defScope (top 30)) := ⟨rfl, rfl, rfl, by decide +kernel, rfl, by decide +kernel, by decide +kernel⟩
theorem d__law_name {s__law_take : DSp} (G : Gb K w mg) (C__law_take : Cal P w K mg base k "_law_take" ["numbers", "cursor", "many"] s__law_take) (T : Top K mg "_law_name" (top 30)) {sp : DSp} (len : ∀ ds M Q E, sp ds M Q E → ds.length = 4)
    (hq : ∀ ds M Q E, sp ds M Q E → b__law_name s__law_take { nx := fun _ M' => Q .non M', rt := Q } (startD 7 ds) M) : Cal P w K mg base (k + 1) "_law_name" ["numbers", "cursor", "at", "plain"] sp := by
  refine cal_mk (N := nm__law_name) T sc__law_name (fun _ _ _ _ _ _ us hl => match us, hl with | [_, _, _, _], _ => rfl) (fun f cdv A outer s H E hr => ?_) len hq
  have hu := hu66 hr
  have hu1 := hu_of hr
  exact rss_cons (rs_set (i := 4) sc__law_name.nd rfl (by first | exact .inl rfl | exact .inr rfl) (re_str)) (rss_cons (rs_set (i := 5) sc__law_name.nd rfl (by first | exact .inl rfl | exact .inr rfl) (re_ix (ix_all hu1) rr_ix (re_var 4 (pv 4)) (re_cal C__law_take hr (ra_cons (re_var 0 (pv 0)) (ra_cons (re_var 1 (pv 1)) (ra_cons (re_int) (ra_nil))))) (fun _ _ => rfl))) (rss_cons (rs_for PassesOwn.never rfl (ri_rng1 rfl G.range (ra_cons (re_cal C__law_take hr (ra_cons (re_var 0 (pv 0)) (ra_cons (re_var 1 (pv 1)) (ra_cons (re_int) (ra_nil))))) (ra_nil))) (ptg_name (pg_name (i := 6) sc__law_name.nd rfl (by first | exact .inl rfl | exact .inr rfl))) (rss_one (rs_set (i := 5) sc__law_name.nd rfl (by first | exact .inl rfl | exact .inr rfl) (re_add (re_var 5 (pv 5)) (re_ix (ix_all hu1) rr_ix (re_add (re_var 4 (pv 4)) (re_str)) (re_cal C__law_take hr (ra_cons (re_var 0 (pv 0)) (ra_cons (re_var 1 (pv 1)) (ra_cons (re_int) (ra_nil))))) (fun _ _ => rfl)))))) (rss_cons (rs_if (rt_val (re_var 3 (pv 3))) (rss_one (rs_ret (re_add (re_slice (re_var 5 (pv 5)) ro_none (ro_some (re_int))) (re_callTy rl_str call_str_int rfl G.str (by decide +kernel) (ra_cons (re_var 2 (pv 2)) (ra_nil)))))) (rss_nil)) (rss_one (rs_ret (re_var 5 (pv 5)))))))
def nm__law_arity : List Str := ["word"]
theorem sc__law_arity : FnScope nm__law_arity ["word"] (defScope (top 31)) := ⟨rfl, rfl, rfl, by decide +kernel, rfl, by decide +kernel, by decide +kernel⟩
theorem d__law_arity (G : Gb K w mg) (T : Top K mg "_law_arity" (top 31)) {sp : DSp} (len : ∀ ds M Q E, sp ds M Q E → ds.length = 1)
    (hq : ∀ ds M Q E, sp ds M Q E → b__law_arity_v2 { nx := fun _ M' => Q .non M', rt := Q } (startD 1 ds) M) : Cal P w K mg base (k + 1) "_law_arity" ["word"] sp := by
  refine cal_mk (N := nm__law_arity) T sc__law_arity (fun _ _ _ _ _ _ us hl => match us, hl with | [_], _ => rfl) (fun f cdv A outer s H E hr => ?_) len hq
  have hu := hu66 hr
  have hu1 := hu_of hr
  exact rss_cons (rs_if (rt_cmp (op_inA hu1) (rr_in (neg := false)) (re_var 0 (pv 0)) (re_lst (ra_cons (re_str) (ra_cons (re_str) (ra_nil)))) rfl) (rss_one (rs_ret (re_int))) (rss_nil)) (rss_cons (rs_if (rt_cmp (op_eqA hu) (rr_eq) (re_var 0 (pv 0)) (re_str) (nomark _)) (rss_one (rs_ret (re_int))) (rss_nil)) (rss_cons (rs_if (rt_cmp (op_inA hu1) (rr_in (neg := false)) (re_var 0 (pv 0)) (re_lst (ra_cons (re_str) (ra_cons (re_str) (ra_cons (re_str) (ra_cons (re_str) (ra_cons (re_str) (ra_cons (re_str) (ra_cons (re_str) (ra_cons (re_str) (ra_cons (re_str) (ra_cons (re_str) (ra_cons (re_str) (ra_nil))))))))))))) rfl) (rss_one (rs_ret (re_int))) (rss_nil)) (rss_one (rs_ret (re_int)))))
def nm__law_formula : List Str := ["numbers", "cursor", "names", "width", "depth", "words", "word", "parts", "k"]
theorem sc__law_formula : FnScope nm__law_formula ["numbers", "cursor", "names", "width", "depth"] (defScope (top 32)) := ⟨rfl, rfl, rfl, by decide +kernel, rfl, by decide +kernel, by decide +kernel⟩
theorem d__law_formula {s__law_take s__law_arity s__law_formula : DSp} (G : Gb K w mg) (C__law_take : Cal P w K mg base k "_law_take" ["numbers", "cursor", "many"] s__law_take) (C__law_arity : Cal P w K mg base k "_law_arity" ["word"] s__law_arity) (C__law_formula : Cal P w K mg base k "_law_formula" ["numbers", "cursor", "names", "width", "depth"] s__law_formula) (T : Top K mg "_law_formula" (top 32)) {sp : DSp} (len : ∀ ds M Q E, sp ds M Q E → ds.length = 5)
    (hq : ∀ ds M Q E, sp ds M Q E → b__law_formula_v2 s__law_take s__law_arity s__law_formula { nx := fun _ M' => Q .non M', rt := Q } (startD 9 ds) M) : Cal P w K mg base (k + 1) "_law_formula" ["numbers", "cursor", "names", "width", "depth"] sp := by
  refine cal_mk (N := nm__law_formula) T sc__law_formula (fun _ _ _ _ _ _ us hl => match us, hl with | [_, _, _, _, _], _ => rfl) (fun f cdv A outer s H E hr => ?_) len hq
  have hu := hu66 hr
  have hu1 := hu_of hr
  exact rss_cons (rs_set (i := 5) sc__law_formula.nd rfl (by first | exact .inl rfl | exact .inr rfl) (re_lst (ra_cons (re_str) (ra_cons (re_str) (ra_cons (re_str) (ra_cons (re_str) (ra_cons (re_str) (ra_cons (re_str) (ra_cons (re_str) (ra_cons (re_str) (ra_cons (re_str) (ra_cons (re_str) (ra_cons (re_str) (ra_cons (re_str) (ra_cons (re_str) (ra_cons (re_str) (ra_nil))))))))))))))))) (rss_cons (rs_if (PW.pt (rw_or (rt_cmp (op_eqA hu) (rr_eq) (re_var 4 (pv 4)) (re_int) (nomark _)) (rw_or1 (rt_cmp (op_eqA hu) (rr_eq) (re_cal C__law_take hr (ra_cons (re_var 0 (pv 0)) (ra_cons (re_var 1 (pv 1)) (ra_cons (re_int) (ra_nil))))) (re_int) (nomark _))))) (rss_cons (rs_if (PW.pt (rw_and (rt_cmp (op_gt) (rr_gt) (re_callB rl_len call_lenA rfl G.len (by decide +kernel) (ra_cons (re_var 2 (pv 2)) (ra_nil))) (re_int) (nomark _)) (rw_and1 (rt_cmp (op_gt) (rr_gt) (re_cal C__law_take hr (ra_cons (re_var 0 (pv 0)) (ra_cons (re_var 1 (pv 1)) (ra_cons (re_int) (ra_nil))))) (re_int) (nomark _))))) (rss_one (rs_ret (re_ix (ix_all hu1) rr_ix (re_var 2 (pv 2)) (re_cal C__law_take hr (ra_cons (re_var 0 (pv 0)) (ra_cons (re_var 1 (pv 1)) (ra_cons (re_callB rl_len call_lenA rfl G.len (by decide +kernel) (ra_cons (re_var 2 (pv 2)) (ra_nil))) (ra_nil))))) (fun _ _ => rfl)))) (rss_nil)) (rss_one (rs_ret (re_cal C__law_take hr (ra_cons (re_var 0 (pv 0)) (ra_cons (re_var 1 (pv 1)) (ra_cons (re_shl (re_int) (re_callB rl_min2 (call_min2 rfl) rfl G.min (by decide +kernel) (ra_cons (re_callB rl_max2 (call_max2 rfl) rfl G.max (by decide +kernel) (ra_cons (re_var 3 (pv 3)) (ra_cons (re_int) (ra_nil)))) (ra_cons (re_int) (ra_nil))))) (ra_nil)))))))) (rss_nil)) (rss_cons (rs_set (i := 6) sc__law_formula.nd rfl (by first | exact .inl rfl | exact .inr rfl) (re_ix (ix_all hu1) rr_ix (re_var 5 (pv 5)) (re_cal C__law_take hr (ra_cons (re_var 0 (pv 0)) (ra_cons (re_var 1 (pv 1)) (ra_cons (re_int) (ra_nil))))) (fun _ _ => rfl))) (rss_cons (rs_set (i := 7) sc__law_formula.nd rfl (by first | exact .inl rfl | exact .inr rfl) (re_lst (ra_cons (re_var 6 (pv 6)) (ra_nil)))) (rss_cons (rs_for PassesOwn.never rfl (ri_rng1 rfl G.range (ra_cons (re_cal C__law_arity hr (ra_cons (re_var 6 (pv 6)) (ra_nil))) (ra_nil))) (ptg_name (pg_name (i := 8) sc__law_formula.nd rfl (by first | exact .inl rfl | exact .inr rfl))) (rss_one (rs_expr (re_append (re_var 7 (pv 7)) (re_cal C__law_formula hr (ra_cons (re_var 0 (pv 0)) (ra_cons (re_var 1 (pv 1)) (ra_cons (re_var 2 (pv 2)) (ra_cons (re_var 3 (pv 3)) (ra_cons (re_sub (re_var 4 (pv 4)) (re_int)) (ra_nil))))))))))) (rss_one (rs_ret (re_callTy rl_tuple call_tuple_of rfl G.tuple (by decide +kernel) (ra_cons (re_var 7 (pv 7)) (ra_nil)))))))))
def nm__law_odd : List Str := ["choice", "names", "width", "leaf", "deep", "k", "long", "wide", "last", "odd"]
theorem sc__law_odd : FnScope nm__law_odd ["choice", "names", "width"] (defScope (top 33)) := ⟨rfl, rfl, rfl, by decide +kernel, rfl, by decide +kernel, by decide +kernel⟩
theorem d__law_odd (G : Gb K w mg) (T : Top K mg "_law_odd" (top 33)) {sp : DSp} (len : ∀ ds M Q E, sp ds M Q E → ds.length = 3)
    (hq : ∀ ds M Q E, sp ds M Q E → b__law_odd { nx := fun _ M' => Q .non M', rt := Q } (startD 10 ds) M) : Cal P w K mg base (k + 1) "_law_odd" ["choice", "names", "width"] sp := by
  refine cal_mk (N := nm__law_odd) T sc__law_odd (fun _ _ _ _ _ _ us hl => match us, hl with | [_, _, _], _ => rfl) (fun f cdv A outer s H E hr => ?_) len hq
  have hu := hu66 hr
  have hu1 := hu_of hr
  exact rss_cons (rs_set (i := 3) sc__law_odd.nd rfl (by first | exact .inl rfl | exact .inr rfl) (re_int)) (rss_cons (rs_if (rt_cmp (op_gt) (rr_gt) (re_callB rl_len call_lenA rfl G.len (by decide +kernel) (ra_cons (re_var 1 (pv 1)) (ra_nil))) (re_int) (nomark _)) (rss_one (rs_set (i := 3) sc__law_odd.nd rfl (by first | exact .inl rfl | exact .inr rfl) (re_ix (ix_all hu1) rr_ix (re_var 1 (pv 1)) (re_sub (re_callB rl_len call_lenA rfl G.len (by decide +kernel) (ra_cons (re_var 1 (pv 1)) (ra_nil))) (re_int)) (fun _ _ => rfl)))) (rss_nil)) (rss_cons (rs_set (i := 4) sc__law_odd.nd rfl (by first | exact .inl rfl | exact .inr rfl) (re_var 3 (pv 3))) (rss_cons (rs_for PassesOwn.never rfl (ri_rng1 rfl G.range (ra_cons (re_add (re_int) (re_mod (re_var 0 (pv 0)) (re_int))) (ra_nil))) (ptg_name (pg_name (i := 5) sc__law_odd.nd rfl (by first | exact .inl rfl | exact .inr rfl))) (rss_one (rs_set (i := 4) sc__law_odd.nd rfl (by first | exact .inl rfl | exact .inr rfl) (re_tup (ra_cons (re_ix (ix_all hu1) rr_ix (re_lst (ra_cons (re_str) (ra_cons (re_str) (ra_nil)))) (re_mod (re_var 5 (pv 5)) (re_int)) (fun _ _ => rfl)) (ra_cons (re_var 4 (pv 4)) (ra_nil))))))) (rss_cons (rs_set (i := 6) sc__law_odd.nd rfl (by first | exact .inl rfl | exact .inr rfl) (re_var 3 (pv 3))) (rss_cons (rs_for PassesOwn.never rfl (ri_rng1 rfl G.range (ra_cons (re_int) (ra_nil))) (ptg_name (pg_name (i := 5) sc__law_odd.nd rfl (by first | exact .inl rfl | exact .inr rfl))) (rss_one (rs_set (i := 6) sc__law_odd.nd rfl (by first | exact .inl rfl | exact .inr rfl) (re_tup (ra_cons (re_str) (ra_cons (re_var 6 (pv 6)) (ra_cons (re_var 3 (pv 3)) (ra_nil)))))))) (rss_cons (rs_set (i := 7) sc__law_odd.nd rfl (by first | exact .inl rfl | exact .inr rfl) (re_tup (ra_cons (re_str) (ra_cons (re_var 3 (pv 3)) (ra_cons (re_tup (ra_cons (re_str) (ra_cons (re_var 3 (pv 3)) (ra_cons (re_int) (ra_nil))))) (ra_cons (re_var 3 (pv 3)) (ra_nil))))))) (rss_cons (rs_if (rt_cmp (op_lt) (rr_lt) (re_var 0 (pv 0)) (re_int) (nomark _)) (rss_one (rs_ret (re_var 4 (pv 4)))) (rss_nil)) (rss_cons (rs_if (rt_cmp (op_lt) (rr_lt) (re_var 0 (pv 0)) (re_int) (nomark _)) (rss_cons (rs_set (i := 8) sc__law_odd.nd rfl (by first | exact .inl rfl | exact .inr rfl) (re_tup (ra_cons (re_str) (ra_cons (re_ix (ix_all hu1) rr_ix (re_lst (ra_cons (re_var 3 (pv 3)) (ra_cons (re_tup (ra_cons (re_str) (ra_cons (re_var 3 (pv 3)) (ra_nil)))) (ra_nil)))) (re_mod (re_var 0 (pv 0)) (re_int)) (fun _ _ => rfl)) (ra_cons (re_tup (ra_cons (re_str) (ra_cons (re_var 3 (pv 3)) (ra_cons (re_var 3 (pv 3)) (ra_nil))))) (ra_nil)))))) (rss_one (rs_ret (re_tup (ra_cons (re_str) (ra_cons (re_var 6 (pv 6)) (ra_cons (re_var 8 (pv 8)) (ra_nil)))))))) (rss_nil)) (rss_cons (rs_set (i := 9) sc__law_odd.nd rfl (by first | exact .inl rfl | exact .inr rfl) (re_lst (ra_cons (re_tup (ra_cons (re_str) (ra_cons (re_str) (ra_cons (re_var 3 (pv 3)) (ra_nil))))) (ra_cons (re_tup (ra_cons (re_str) (ra_cons (re_var 3 (pv 3)) (ra_cons (re_str) (ra_nil))))) (ra_cons (re_tup (ra_cons (re_str) (ra_cons (re_var 3 (pv 3)) (ra_cons (re_shl (re_int) (re_var 2 (pv 2))) (ra_nil))))) (ra_cons (re_tup (ra_cons (re_str) (ra_cons (re_var 3 (pv 3)) (ra_cons (re_sub (re_shl (re_int) (re_var 2 (pv 2))) (re_int)) (ra_nil))))) (ra_cons (re_neg (re_int)) (ra_nil)))))))) (rss_cons (rs_set (i := 9) sc__law_odd.nd rfl (by first | exact .inl rfl | exact .inr rfl) (re_add (re_var 9 (pv 9)) (re_lst (ra_cons (re_tup (ra_cons (re_str) (ra_cons (re_var 3 (pv 3)) (ra_cons (re_var 3 (pv 3)) (ra_nil))))) (ra_cons (re_tup (ra_cons (re_str) (ra_cons (re_var 3 (pv 3)) (ra_nil)))) (ra_cons (re_tup (ra_cons (re_str) (ra_cons (re_var 3 (pv 3)) (ra_cons (re_var 3 (pv 3)) (ra_nil))))) (ra_cons (re_tup (ra_nil)) (ra_cons (re_tup (ra_cons (re_str) (ra_cons (re_var 3 (pv 3)) (ra_cons (re_var 3 (pv 3)) (ra_nil))))) (ra_cons (re_tup (ra_cons (re_int) (ra_cons (re_var 3 (pv 3)) (ra_nil)))) (ra_cons (re_var 7 (pv 7)) (ra_nil))))))))))) (rss_cons (rs_set (i := 9) sc__law_odd.nd rfl (by first | exact .inl rfl | exact .inr rfl) (re_add (re_var 9 (pv 9)) (re_lst (ra_cons (re_tup (ra_cons (re_str) (ra_cons (re_tup (ra_cons (re_str) (ra_nil))) (ra_cons (re_var 3 (pv 3)) (ra_nil))))) (ra_cons (re_str) (ra_cons (re_tup (ra_cons (re_str) (ra_cons (re_str) (ra_cons (re_var 3 (pv 3)) (ra_nil))))) (ra_nil))))))) (rss_one (rs_ret (re_ix (ix_all hu1) rr_ix (re_var 9 (pv 9)) (re_mod (re_var 0 (pv 0)) (re_callB rl_len call_lenA rfl G.len (by decide +kernel) (ra_cons (re_var 9 (pv 9)) (ra_nil)))) (fun _ _ => rfl)))))))))))))))
def nm__law_size : List Str := ["formula", "total", "part"]
theorem sc__law_size : FnScope nm__law_size ["formula"] (defScope (top 34)) := ⟨rfl, rfl, rfl, by decide +kernel, rfl, by decide +kernel, by decide +kernel⟩
theorem d__law_size {s__law_size : DSp} (G : Gb K w mg) (C__law_size : Cal P w K mg base k "_law_size" ["formula"] s__law_size) (T : Top K mg "_law_size" (top 34)) {sp : DSp} (len : ∀ ds M Q E, sp ds M Q E → ds.length = 1)
    (hq : ∀ ds M Q E, sp ds M Q E → b__law_size_v2 s__law_size { nx := fun _ M' => Q .non M', rt := Q } (startD 3 ds) M) : Cal P w K mg base (k + 1) "_law_size" ["formula"] sp := by
  refine cal_mk (N := nm__law_size) T sc__law_size (fun _ _ _ _ _ _ us hl => match us, hl with | [_], _ => rfl) (fun f cdv A outer s H E hr => ?_) len hq
  have hu := hu66 hr
  have hu1 := hu_of hr
  exact rss_cons (rs_if (rt_val (re_isi2 .int .str (re_var 0 (pv 0)) (pe_ty .int G.int) (pe_ty .str G.str) rfl G.isinstance)) (rss_one (rs_ret (re_int))) (rss_nil)) (rss_cons (rs_set (i := 1) sc__law_size.nd rfl (by first | exact .inl rfl | exact .inr rfl) (re_int)) (rss_cons (rs_for PassesOwn.never rfl (ri_val (re_slice (re_var 0 (pv 0)) (ro_some (re_int)) ro_none)) (ptg_name (pg_name (i := 2) sc__law_size.nd rfl (by first | exact .inl rfl | exact .inr rfl))) (rss_one (rs_set (i := 1) sc__law_size.nd rfl (by first | exact .inl rfl | exact .inr rfl) (re_add (re_var 1 (pv 1)) (re_cal C__law_size hr (ra_cons (re_var 2 (pv 2)) (ra_nil))))))) (rss_one (rs_ret (re_var 1 (pv 1))))))
def nm__law_shape : List Str := ["formula", "width", "names", "depth", "good", "part"]
theorem sc__law_shape : FnScope nm__law_shape ["formula", "width", "names", "depth"] (defScope (top 35)) := ⟨rfl, rfl, rfl, by decide +kernel, rfl, by decide +kernel, by decide +kernel⟩
theorem d__law_shape {s__law_arity s__law_shape : DSp} (G : Gb K w mg) (C__law_arity : Cal P w K mg base k "_law_arity" ["word"] s__law_arity) (C__law_shape : Cal P w K mg base k "_law_shape" ["formula", "width", "names", "depth"] s__law_shape) (T : Top K mg "_law_shape" (top 35)) {sp : DSp} (len : ∀ ds M Q E, sp ds M Q E → ds.length = 4)
    (hq : ∀ ds M Q E, sp ds M Q E → b__law_shape s__law_arity s__law_shape { nx := fun _ M' => Q .non M', rt := Q } (startD 6 ds) M) : Cal P w K mg base (k + 1) "_law_shape" ["formula", "width", "names", "depth"] sp := by
  refine cal_mk (N := nm__law_shape) T sc__law_shape (fun _ _ _ _ _ _ us hl => match us, hl with | [_, _, _, _], _ => rfl) (fun f cdv A outer s H E hr => ?_) len hq
  have hu := hu66 hr
  have hu1 := hu_of hr
  exact rss_cons (rs_if (rt_val (re_isi .int (re_var 0 (pv 0)) (pe_ty .int G.int) rfl G.isinstance)) (rss_one (rs_ret (re_chain (op_le) (rr_le) (op_lt) (rr_lt) (re_int) (re_var 0 (pv 0)) (re_shl (re_int) (re_var 1 (pv 1)))))) (rss_nil)) (rss_cons (rs_if (rt_val (re_isi .str (re_var 0 (pv 0)) (pe_ty .str G.str) rfl G.isinstance)) (rss_one (rs_ret (re_cmp (op_inA hu1) (rr_in (neg := false)) (re_var 0 (pv 0)) (re_var 2 (pv 2)) rfl))) (rss_nil)) (rss_cons (rs_if (PW.pt (rw_or (rt_cmp (op_eqA hu) (rr_eq) (re_var 3 (pv 3)) (re_int) (nomark _)) (rw_or (rt_cmp (op_eqA hu) (rr_eq) (re_callB rl_len call_lenA rfl G.len (by decide +kernel) (ra_cons (re_var 0 (pv 0)) (ra_nil))) (re_int) (nomark _)) (rw_or1 (rt_not (rt_val (re_isi .str (re_ix (ix_all hu1) rr_ix (re_var 0 (pv 0)) (re_int) (fun _ _ => rfl)) (pe_ty .str G.str) rfl G.isinstance))))))) (rss_one (rs_ret (re_bl))) (rss_nil)) (rss_cons (rs_if (PW.pt (rw_or (rt_cmp (op_eqA hu) (rr_eq) (re_cal C__law_arity hr (ra_cons (re_ix (ix_all hu1) rr_ix (re_var 0 (pv 0)) (re_int) (fun _ _ => rfl)) (ra_nil))) (re_int) (nomark _)) (rw_or1 (rt_cmp (op_neA hu) (rr_ne) (re_callB rl_len call_lenA rfl G.len (by decide +kernel) (ra_cons (re_var 0 (pv 0)) (ra_nil))) (re_add (re_int) (re_cal C__law_arity hr (ra_cons (re_ix (ix_all hu1) rr_ix (re_var 0 (pv 0)) (re_int) (fun _ _ => rfl)) (ra_nil)))) (nomark _))))) (rss_one (rs_ret (re_bl))) (rss_nil)) (rss_cons (rs_set (i := 4) sc__law_shape.nd rfl (by first | exact .inl rfl | exact .inr rfl) (re_bl)) (rss_cons (rs_for PassesOwn.never rfl (ri_val (re_slice (re_var 0 (pv 0)) (ro_some (re_int)) ro_none)) (ptg_name (pg_name (i := 5) sc__law_shape.nd rfl (by first | exact .inl rfl | exact .inr rfl))) (rss_one (rs_set (i := 4) sc__law_shape.nd rfl (by first | exact .inl rfl | exact .inr rfl) (re_and (re_var 4 (pv 4)) (re_one (re_cal C__law_shape hr (ra_cons (re_var 5 (pv 5)) (ra_cons (re_var 1 (pv 1)) (ra_cons (re_var 2 (pv 2)) (ra_cons (re_sub (re_var 3 (pv 3)) (re_int)) (ra_nil))))))))))) (rss_one (rs_ret (re_var 4 (pv 4)))))))))
def nm__law_good : List Str := ["formula", "width", "names"]
theorem sc__law_good : FnScope nm__law_good ["formula", "width", "names"] (defScope (top 36)) := ⟨rfl, rfl, rfl, by decide +kernel, rfl, by decide +kernel, by decide +kernel⟩
theorem d__law_good {s__law_shape s__law_size : DSp} (G : Gb K w mg) (C__law_shape : Cal P w K mg base k "_law_shape" ["formula", "width", "names", "depth"] s__law_shape) (C__law_size : Cal P w K mg base k "_law_size" ["formula"] s__law_size) (T : Top K mg "_law_good" (top 36)) {sp : DSp} (len : ∀ ds M Q E, sp ds M Q E → ds.length = 3)
    (hq : ∀ ds M Q E, sp ds M Q E → b__law_good s__law_shape s__law_size { nx := fun _ M' => Q .non M', rt := Q } (startD 3 ds) M) : Cal P w K mg base (k + 1) "_law_good" ["formula", "width", "names"] sp := by
  refine cal_mk (N := nm__law_good) T sc__law_good (fun _ _ _ _ _ _ us hl => match us, hl with | [_, _, _], _ => rfl) (fun f cdv A outer s H E hr => ?_) len hq
  have hu := hu66 hr
  have hu1 := hu_of hr
  exact rss_one (rs_ret (re_and (re_cal C__law_shape hr (ra_cons (re_var 0 (pv 0)) (ra_cons (re_var 1 (pv 1)) (ra_cons (re_var 2 (pv 2)) (ra_cons (re_int) (ra_nil)))))) (re_one (re_cmp (op_le) (rr_le) (re_cal C__law_size hr (ra_cons (re_var 0 (pv 0)) (ra_nil))) (re_int) (nomark _)))))
def nm__law_good_name : List Str := ["name", "sign"]
theorem sc__law_good_name : FnScope nm__law_good_name ["name"] (defScope (top 37)) := ⟨rfl, rfl, rfl, by decide +kernel, rfl, by decide +kernel, by decide +kernel⟩
theorem d__law_good_name {s__law_arity : DSp} (G : Gb K w mg) (C__law_arity : Cal P w K mg base k "_law_arity" ["word"] s__law_arity) (T : Top K mg "_law_good_name" (top 37)) {sp : DSp} (len : ∀ ds M Q E, sp ds M Q E → ds.length = 1)
    (hq : ∀ ds M Q E, sp ds M Q E → b__law_good_name s__law_arity { nx := fun _ M' => Q .non M', rt := Q } (startD 2 ds) M) : Cal P w K mg base (k + 1) "_law_good_name" ["name"] sp := by
  refine cal_mk (N := nm__law_good_name) T sc__law_good_name (fun _ _ _ _ _ _ us hl => match us, hl with | [_], _ => rfl) (fun f cdv A outer s H E hr => ?_) len hq
  have hu := hu66 hr
  have hu1 := hu_of hr
  exact rss_cons (rs_if (PW.pt (rw_or (rt_not (rt_chain (op_le) (rr_le) (op_le) (rr_le) (re_int) (re_callB rl_len call_lenA rfl G.len (by decide +kernel) (ra_cons (re_var 0 (pv 0)) (ra_nil))) (re_int))) (rw_or (rt_cmp (op_notInA hu1) (rr_in (neg := true)) (re_ix (ix_all hu1) rr_ix (re_var 0 (pv 0)) (re_int) (fun _ _ => rfl)) (re_str) rfl) (rw_or1 (rt_cmp (op_gt) (rr_gt) (re_cal C__law_arity hr (ra_cons (re_var 0 (pv 0)) (ra_nil))) (re_int) (nomark _)))))) (rss_one (rs_ret (re_bl))) (rss_nil)) (rss_cons (rs_for PassesOwn.never rfl (ri_val (re_var 0 (pv 0))) (ptg_name (pg_name (i := 1) sc__law_good_name.nd rfl (by first | exact .inl rfl | exact .inr rfl))) (rss_one (rs_if (rt_cmp (op_notInA hu1) (rr_in (neg := true)) (re_var 1 (pv 1)) (re_str) rfl) (rss_one (rs_ret (re_bl))) (rss_nil)))) (rss_one (rs_ret (re_bl))))
def nm__law_due : List Str := ["width", "inputs", "needs", "lets", "outs", "line", "known", "at", "before", "register", "formula"]
theorem sc__law_due : FnScope nm__law_due ["width", "inputs", "needs", "lets", "outs"] (defScope (top 38)) := ⟨rfl, rfl, rfl, by decide +kernel, rfl, by decide +kernel, by decide +kernel⟩
theorem d__law_due {s__law_good_name s__law_good : DSp} (G : Gb K w mg) (C__law_good_name : Cal P w K mg base k "_law_good_name" ["name"] s__law_good_name) (C__law_good : Cal P w K mg base k "_law_good" ["formula", "width", "names"] s__law_good) (T : Top K mg "_law_due" (top 38)) {sp : DSp} (len : ∀ ds M Q E, sp ds M Q E → ds.length = 5)
    (hq : ∀ ds M Q E, sp ds M Q E → b__law_due s__law_good_name s__law_good { nx := fun _ M' => Q .non M', rt := Q } (startD 11 ds) M) : Cal P w K mg base (k + 1) "_law_due" ["width", "inputs", "needs", "lets", "outs"] sp := by
  refine cal_mk (N := nm__law_due) T sc__law_due (fun _ _ _ _ _ _ us hl => match us, hl with | [_, _, _, _, _], _ => rfl) (fun f cdv A outer s H E hr => ?_) len hq
  have hu := hu66 hr
  have hu1 := hu_of hr
  exact rss_cons (rs_if (rt_not (rt_chain (op_le) (rr_le) (op_le) (rr_le) (re_int) (re_var 0 (pv 0)) (re_int))) (rss_one (rs_ret (re_int))) (rss_nil)) (rss_cons (rs_set (i := 5) sc__law_due.nd rfl (by first | exact .inl rfl | exact .inr rfl) (re_int)) (rss_cons (rs_set (i := 6) sc__law_due.nd rfl (by first | exact .inl rfl | exact .inr rfl) (re_lst (ra_nil))) (rss_cons (rs_for PassesOwn.never rfl (ri_rng1 rfl G.range (ra_cons (re_callB rl_len call_lenA rfl G.len (by decide +kernel) (ra_cons (re_var 1 (pv 1)) (ra_nil))) (ra_nil))) (ptg_name (pg_name (i := 7) sc__law_due.nd rfl (by first | exact .inl rfl | exact .inr rfl))) (rss_cons (rs_set (i := 5) sc__law_due.nd rfl (by first | exact .inl rfl | exact .inr rfl) (re_add (re_var 5 (pv 5)) (re_int))) (rss_cons (rs_if (PW.pt (rw_or (rt_not (rt_val (re_cal C__law_good_name hr (ra_cons (re_ix (ix_all hu1) rr_ix (re_var 1 (pv 1)) (re_var 7 (pv 7)) (fun _ _ => rfl)) (ra_nil))))) (rw_or (rt_cmp (op_inA hu1) (rr_in (neg := false)) (re_ix (ix_all hu1) rr_ix (re_var 1 (pv 1)) (re_var 7 (pv 7)) (fun _ _ => rfl)) (re_var 6 (pv 6)) rfl) (rw_or (rt_cmp (op_ge) (rr_ge) (re_var 7 (pv 7)) (re_int) (nomark _)) (rw_or1 (rt_cmp (op_gt) (rr_gt) (re_mul (re_var 0 (pv 0)) (re_add (re_var 7 (pv 7)) (re_int))) (re_int) (nomark _))))))) (rss_one (rs_ret (re_var 5 (pv 5)))) (rss_nil)) (rss_one (rs_expr (re_append (re_var 6 (pv 6)) (re_ix (ix_all hu1) rr_ix (re_var 1 (pv 1)) (re_var 7 (pv 7)) (fun _ _ => rfl)))))))) (rss_cons (rs_for PassesOwn.never rfl (ri_rng1 rfl G.range (ra_cons (re_callB rl_len call_lenA rfl G.len (by decide +kernel) (ra_cons (re_var 2 (pv 2)) (ra_nil))) (ra_nil))) (ptg_name (pg_name (i := 7) sc__law_due.nd rfl (by first | exact .inl rfl | exact .inr rfl))) (rss_cons (rs_set (i := 5) sc__law_due.nd rfl (by first | exact .inl rfl | exact .inr rfl) (re_add (re_var 5 (pv 5)) (re_int))) (rss_one (rs_if (PW.pt (rw_or (rt_cmp (op_ge) (rr_ge) (re_var 7 (pv 7)) (re_int) (nomark _)) (rw_or1 (rt_not (rt_val (re_cal C__law_good hr (ra_cons (re_ix (ix_all hu1) rr_ix (re_var 2 (pv 2)) (re_var 7 (pv 7)) (fun _ _ => rfl)) (ra_cons (re_var 0 (pv 0)) (ra_cons (re_var 6 (pv 6)) (ra_nil)))))))))) (rss_one (rs_ret (re_var 5 (pv 5)))) (rss_nil))))) (rss_cons (rs_for PassesOwn.never rfl (ri_rng1 rfl G.range (ra_cons (re_callB rl_len call_lenA rfl G.len (by decide +kernel) (ra_cons (re_var 3 (pv 3)) (ra_nil))) (ra_nil))) (ptg_name (pg_name (i := 7) sc__law_due.nd rfl (by first | exact .inl rfl | exact .inr rfl))) (rss_cons (rs_set (i := 5) sc__law_due.nd rfl (by first | exact .inl rfl | exact .inr rfl) (re_add (re_var 5 (pv 5)) (re_int))) (rss_cons (rs_if (PW.pt (rw_or (rt_cmp (op_ge) (rr_ge) (re_var 7 (pv 7)) (re_int) (nomark _)) (rw_or (rt_not (rt_val (re_cal C__law_good_name hr (ra_cons (re_ix (ix_all hu1) rr_ix (re_ix (ix_all hu1) rr_ix (re_var 3 (pv 3)) (re_var 7 (pv 7)) (fun _ _ => rfl)) (re_int) (fun _ _ => rfl)) (ra_nil))))) (rw_or1 (rt_cmp (op_inA hu1) (rr_in (neg := false)) (re_ix (ix_all hu1) rr_ix (re_ix (ix_all hu1) rr_ix (re_var 3 (pv 3)) (re_var 7 (pv 7)) (fun _ _ => rfl)) (re_int) (fun _ _ => rfl)) (re_var 6 (pv 6)) rfl))))) (rss_one (rs_ret (re_var 5 (pv 5)))) (rss_nil)) (rss_cons (rs_if (rt_not (rt_val (re_cal C__law_good hr (ra_cons (re_ix (ix_all hu1) rr_ix (re_ix (ix_all hu1) rr_ix (re_var 3 (pv 3)) (re_var 7 (pv 7)) (fun _ _ => rfl)) (re_int) (fun _ _ => rfl)) (ra_cons (re_var 0 (pv 0)) (ra_cons (re_var 6 (pv 6)) (ra_nil))))))) (rss_one (rs_ret (re_var 5 (pv 5)))) (rss_nil)) (rss_one (rs_expr (re_append (re_var 6 (pv 6)) (re_ix (ix_all hu1) rr_ix (re_ix (ix_all hu1) rr_ix (re_var 3 (pv 3)) (re_var 7 (pv 7)) (fun _ _ => rfl)) (re_int) (fun _ _ => rfl))))))))) (rss_cons (rs_set (i := 8) sc__law_due.nd rfl (by first | exact .inl rfl | exact .inr rfl) (re_neg (re_int))) (rss_cons (rs_for PassesOwn.never rfl (ri_val (re_var 4 (pv 4))) (ptg_two rfl (pg_name (i := 9) sc__law_due.nd rfl (by first | exact .inl rfl | exact .inr rfl)) (pg_name (i := 10) sc__law_due.nd rfl (by first | exact .inl rfl | exact .inr rfl))) (rss_cons (rs_set (i := 5) sc__law_due.nd rfl (by first | exact .inl rfl | exact .inr rfl) (re_add (re_var 5 (pv 5)) (re_int))) (rss_cons (rs_if (PW.pt (rw_or (rt_not (rt_chain (op_lt) (rr_lt) (op_le) (rr_le) (re_var 8 (pv 8)) (re_var 9 (pv 9)) (re_int))) (rw_or1 (rt_not (rt_val (re_cal C__law_good hr (ra_cons (re_var 10 (pv 10)) (ra_cons (re_var 0 (pv 0)) (ra_cons (re_var 6 (pv 6)) (ra_nil)))))))))) (rss_one (rs_ret (re_var 5 (pv 5)))) (rss_nil)) (rss_one (rs_set (i := 8) sc__law_due.nd rfl (by first | exact .inl rfl | exact .inr rfl) (re_var 9 (pv 9))))))) (rss_one (rs_ret (re_int))))))))))
def nm__law_data : List Str := ["numbers", "cursor", "width", "plain", "most", "inputs", "k", "needs", "many", "lets", "known", "name", "outs", "register"]
theorem sc__law_data : FnScope nm__law_data ["numbers", "cursor"] (defScope (top 39)) := ⟨rfl, rfl, rfl, by decide +kernel, rfl, by decide +kernel, by decide +kernel⟩
theorem d__law_data {s__law_take s__law_name s__law_formula : DSp} (G : Gb K w mg) (C__law_take : Cal P w K mg base k "_law_take" ["numbers", "cursor", "many"] s__law_take) (C__law_name : Cal P w K mg base k "_law_name" ["numbers", "cursor", "at", "plain"] s__law_name) (C__law_formula : Cal P w K mg base k "_law_formula" ["numbers", "cursor", "names", "width", "depth"] s__law_formula) (T : Top K mg "_law_data" (top 39)) {sp : DSp} (len : ∀ ds M Q E, sp ds M Q E → ds.length = 2)
    (hq : ∀ ds M Q E, sp ds M Q E → b__law_data s__law_take s__law_name s__law_formula { nx := fun _ M' => Q .non M', rt := Q } (startD 14 ds) M) : Cal P w K mg base (k + 1) "_law_data" ["numbers", "cursor"] sp := by
  refine cal_mk (N := nm__law_data) T sc__law_data (fun _ _ _ _ _ _ us hl => match us, hl with | [_, _], _ => rfl) (fun f cdv A outer s H E hr => ?_) len hq
  have hu := hu66 hr
  have hu1 := hu_of hr
  exact rss_cons (rs_set (i := 2) sc__law_data.nd rfl (by first | exact .inl rfl | exact .inr rfl) (re_ix (ix_all hu1) rr_ix (re_lst (ra_cons (re_int) (ra_cons (re_int) (ra_cons (re_int) (ra_cons (re_int) (ra_cons (re_int) (ra_cons (re_int) (ra_cons (re_int) (ra_cons (re_int) (ra_cons (re_int) (ra_cons (re_int) (ra_nil)))))))))))) (re_cal C__law_take hr (ra_cons (re_var 0 (pv 0)) (ra_cons (re_var 1 (pv 1)) (ra_cons (re_int) (ra_nil))))) (fun _ _ => rfl))) (rss_cons (rs_set (i := 3) sc__law_data.nd rfl (by first | exact .inl rfl | exact .inr rfl) (re_cmp (op_gt) (rr_gt) (re_cal C__law_take hr (ra_cons (re_var 0 (pv 0)) (ra_cons (re_var 1 (pv 1)) (ra_cons (re_int) (ra_nil))))) (re_int) (nomark _))) (rss_cons (rs_set (i := 4) sc__law_data.nd rfl (by first | exact .inl rfl | exact .inr rfl) (re_callB rl_max2 (call_max2 rfl) rfl G.max (by decide +kernel) (ra_cons (re_int) (ra_cons (re_callB rl_min2 (call_min2 rfl) rfl G.min (by decide +kernel) (ra_cons (re_int) (ra_cons (re_fdiv (re_int) (re_callB rl_max2 (call_max2 rfl) rfl G.max (by decide +kernel) (ra_cons (re_var 2 (pv 2)) (ra_cons (re_int) (ra_nil))))) (ra_nil)))) (ra_nil))))) (rss_cons (rs_set (i := 5) sc__law_data.nd rfl (by first | exact .inl rfl | exact .inr rfl) (re_lst (ra_nil))) (rss_cons (rs_for PassesOwn.never rfl (ri_rng1 rfl G.range (ra_cons (re_add (re_cal C__law_take hr (ra_cons (re_var 0 (pv 0)) (ra_cons (re_var 1 (pv 1)) (ra_cons (re_add (re_var 4 (pv 4)) (re_int)) (ra_nil))))) (re_callTy rl_int1 call_int1 rfl G.int (by decide +kernel) (ra_cons (re_cmp (op_eqA hu) (rr_eq) (re_cal C__law_take hr (ra_cons (re_var 0 (pv 0)) (ra_cons (re_var 1 (pv 1)) (ra_cons (re_int) (ra_nil))))) (re_int) (nomark _)) (ra_nil)))) (ra_nil))) (ptg_name (pg_name (i := 6) sc__law_data.nd rfl (by first | exact .inl rfl | exact .inr rfl))) (rss_one (rs_expr (re_append (re_var 5 (pv 5)) (re_cal C__law_name hr (ra_cons (re_var 0 (pv 0)) (ra_cons (re_var 1 (pv 1)) (ra_cons (re_var 6 (pv 6)) (ra_cons (re_var 3 (pv 3)) (ra_nil)))))))))) (rss_cons (rs_set (i := 7) sc__law_data.nd rfl (by first | exact .inl rfl | exact .inr rfl) (re_lst (ra_nil))) (rss_cons (rs_for PassesOwn.never rfl (ri_rng1 rfl G.range (ra_cons (re_ix (ix_all hu1) rr_ix (re_lst (ra_cons (re_int) (ra_cons (re_int) (ra_cons (re_int) (ra_cons (re_int) (ra_cons (re_int) (ra_cons (re_int) (ra_cons (re_int) (ra_nil))))))))) (re_cal C__law_take hr (ra_cons (re_var 0 (pv 0)) (ra_cons (re_var 1 (pv 1)) (ra_cons (re_int) (ra_nil))))) (fun _ _ => rfl)) (ra_nil))) (ptg_name (pg_name (i := 6) sc__law_data.nd rfl (by first | exact .inl rfl | exact .inr rfl))) (rss_one (rs_expr (re_append (re_var 7 (pv 7)) (re_cal C__law_formula hr (ra_cons (re_var 0 (pv 0)) (ra_cons (re_var 1 (pv 1)) (ra_cons (re_var 5 (pv 5)) (ra_cons (re_var 2 (pv 2)) (ra_cons (re_int) (ra_nil))))))))))) (rss_cons (rs_set (i := 8) sc__law_data.nd rfl (by first | exact .inl rfl | exact .inr rfl) (re_cal C__law_take hr (ra_cons (re_var 0 (pv 0)) (ra_cons (re_var 1 (pv 1)) (ra_cons (re_int) (ra_nil)))))) (rss_cons (rs_if (rt_cmp (op_eqA hu) (rr_eq) (re_cal C__law_take hr (ra_cons (re_var 0 (pv 0)) (ra_cons (re_var 1 (pv 1)) (ra_cons (re_int) (ra_nil))))) (re_int) (nomark _)) (rss_one (rs_set (i := 8) sc__law_data.nd rfl (by first | exact .inl rfl | exact .inr rfl) (re_add (re_int) (re_cal C__law_take hr (ra_cons (re_var 0 (pv 0)) (ra_cons (re_var 1 (pv 1)) (ra_cons (re_int) (ra_nil)))))))) (rss_nil)) (rss_cons (rs_set (i := 9) sc__law_data.nd rfl (by first | exact .inl rfl | exact .inr rfl) (re_lst (ra_nil))) (rss_cons (rs_set (i := 10) sc__law_data.nd rfl (by first | exact .inl rfl | exact .inr rfl) (re_callTy rl_list call_list_of rfl G.list (by decide +kernel) (ra_cons (re_var 5 (pv 5)) (ra_nil)))) (rss_cons (rs_for PassesOwn.never rfl (ri_rng1 rfl G.range (ra_cons (re_var 8 (pv 8)) (ra_nil))) (ptg_name (pg_name (i := 6) sc__law_data.nd rfl (by first | exact .inl rfl | exact .inr rfl))) (rss_cons (rs_set (i := 11) sc__law_data.nd rfl (by first | exact .inl rfl | exact .inr rfl) (re_cal C__law_name hr (ra_cons (re_var 0 (pv 0)) (ra_cons (re_var 1 (pv 1)) (ra_cons (re_add (re_var 6 (pv 6)) (re_int)) (ra_cons (re_var 3 (pv 3)) (ra_nil))))))) (rss_cons (rs_expr (re_append (re_var 9 (pv 9)) (re_tup (ra_cons (re_var 11 (pv 11)) (ra_cons (re_cal C__law_formula hr (ra_cons (re_var 0 (pv 0)) (ra_cons (re_var 1 (pv 1)) (ra_cons (re_var 10 (pv 10)) (ra_cons (re_var 2 (pv 2)) (ra_cons (re_add (re_int) (re_callTy rl_int1 call_int1 rfl G.int (by decide +kernel) (ra_cons (re_cmp (op_lt) (rr_lt) (re_var 8 (pv 8)) (re_int) (nomark _)) (ra_nil)))) (ra_nil))))))) (ra_nil)))))) (rss_one (rs_expr (re_append (re_var 10 (pv 10)) (re_var 11 (pv 11)))))))) (rss_cons (rs_set (i := 12) sc__law_data.nd rfl (by first | exact .inl rfl | exact .inr rfl) (re_lst (ra_nil))) (rss_cons (rs_set (i := 13) sc__law_data.nd rfl (by first | exact .inl rfl | exact .inr rfl) (re_add (re_sub (re_cal C__law_take hr (ra_cons (re_var 0 (pv 0)) (ra_cons (re_var 1 (pv 1)) (ra_cons (re_int) (ra_nil))))) (re_int)) (re_callTy rl_int1 call_int1 rfl G.int (by decide +kernel) (ra_cons (re_cmp (op_gt) (rr_gt) (re_cal C__law_take hr (ra_cons (re_var 0 (pv 0)) (ra_cons (re_var 1 (pv 1)) (ra_cons (re_int) (ra_nil))))) (re_int) (nomark _)) (ra_nil))))) (rss_cons (rs_for PassesOwn.never rfl (ri_rng1 rfl G.range (ra_cons (re_cal C__law_take hr (ra_cons (re_var 0 (pv 0)) (ra_cons (re_var 1 (pv 1)) (ra_cons (re_int) (ra_nil))))) (ra_nil))) (ptg_name (pg_name (i := 6) sc__law_data.nd rfl (by first | exact .inl rfl | exact .inr rfl))) (rss_cons (rs_expr (re_append (re_var 12 (pv 12)) (re_tup (ra_cons (re_var 13 (pv 13)) (ra_cons (re_cal C__law_formula hr (ra_cons (re_var 0 (pv 0)) (ra_cons (re_var 1 (pv 1)) (ra_cons (re_var 10 (pv 10)) (ra_cons (re_var 2 (pv 2)) (ra_cons (re_int) (ra_nil))))))) (ra_nil)))))) (rss_one (rs_set (i := 13) sc__law_data.nd rfl (by first | exact .inl rfl | exact .inr rfl) (re_sub (re_add (re_add (re_var 13 (pv 13)) (re_int)) (re_callTy rl_int1 call_int1 rfl G.int (by decide +kernel) (ra_cons (re_cmp (op_eqA hu) (rr_eq) (re_cal C__law_take hr (ra_cons (re_var 0 (pv 0)) (ra_cons (re_var 1 (pv 1)) (ra_cons (re_int) (ra_nil))))) (re_int) (nomark _)) (ra_nil)))) (re_callTy rl_int1 call_int1 rfl G.int (by decide +kernel) (ra_cons (re_cmp (op_eqA hu) (rr_eq) (re_cal C__law_take hr (ra_cons (re_var 0 (pv 0)) (ra_cons (re_var 1 (pv 1)) (ra_cons (re_int) (ra_nil))))) (re_int) (nomark _)) (ra_nil)))))))) (rss_one (rs_ret (re_lst (ra_cons (re_var 2 (pv 2)) (ra_cons (re_var 5 (pv 5)) (ra_cons (re_var 7 (pv 7)) (ra_cons (re_var 9 (pv 9)) (ra_cons (re_var 12 (pv 12)) (ra_nil)))))))))))))))))))))))
def nm__law_spoil : List Str := ["numbers", "cursor", "data", "known", "row", "odd", "names", "name", "place", "kind", "at"]
theorem sc__law_spoil : FnScope nm__law_spoil ["numbers", "cursor", "data"] (defScope (top 40)) := ⟨rfl, rfl, rfl, by decide +kernel, rfl, by decide +kernel, by decide +kernel⟩
theorem d__law_spoil {s__law_odd s__law_take : DSp} (G : Gb K w mg) (C__law_odd : Cal P w K mg base k "_law_odd" ["choice", "names", "width"] s__law_odd) (C__law_take : Cal P w K mg base k "_law_take" ["numbers", "cursor", "many"] s__law_take) (T : Top K mg "_law_spoil" (top 40)) {sp : DSp} (len : ∀ ds M Q E, sp ds M Q E → ds.length = 3)
    (hq : ∀ ds M Q E, sp ds M Q E → b__law_spoil s__law_odd s__law_take { nx := fun _ M' => Q .non M', rt := Q } (startD 11 ds) M) : Cal P w K mg base (k + 1) "_law_spoil" ["numbers", "cursor", "data"] sp := by
  refine cal_mk (N := nm__law_spoil) T sc__law_spoil (fun _ _ _ _ _ _ us hl => match us, hl with | [_, _, _], _ => rfl) (fun f cdv A outer s H E hr => ?_) len hq
  have hu := hu66 hr
  have hu1 := hu_of hr
  exact rss_cons (rs_set (i := 3) sc__law_spoil.nd rfl (by first | exact .inl rfl | exact .inr rfl) (re_add (re_callTy rl_list call_list_of rfl G.list (by decide +kernel) (ra_cons (re_ix (ix_all hu1) rr_ix (re_var 2 (pv 2)) (re_int) (fun _ _ => rfl)) (ra_nil))) (re_lc (own := [("row", 4)]) rfl sc__law_spoil.nd (ri_val (re_ix (ix_all hu1) rr_ix (re_var 2 (pv 2)) (re_int) (fun _ _ => rfl))) (blkOk_by (own := [("row", 4)]) (N := nm__law_spoil) (sc := defScope (top 40)) (by decide +kernel)) (by decide) (fun _ _ _ _ _ => (ptg_name (pg_name (i := 4) sc__law_spoil.nd rfl (by first | exact .inl rfl | exact .inr rfl)))) (fun _ _ _ _ _ => rts_nil) (fun _ _ _ _ _ => re_ix (ix_all hu1) rr_ix (re_var 4 (pv 4)) (re_int) (fun _ _ => rfl))))) (rss_cons (rs_set (i := 5) sc__law_spoil.nd rfl (by first | exact .inl rfl | exact .inr rfl) (re_cal C__law_odd hr (ra_cons (re_cal C__law_take hr (ra_cons (re_var 0 (pv 0)) (ra_cons (re_var 1 (pv 1)) (ra_cons (re_int) (ra_nil))))) (ra_cons (re_var 3 (pv 3)) (ra_cons (re_callB rl_max2 (call_max2 rfl) rfl G.max (by decide +kernel) (ra_cons (re_ix (ix_all hu1) rr_ix (re_var 2 (pv 2)) (re_int) (fun _ _ => rfl)) (ra_cons (re_int) (ra_nil)))) (ra_nil)))))) (rss_cons (rs_set (i := 6) sc__law_spoil.nd rfl (by first | exact .inl rfl | exact .inr rfl) (re_add (re_lst (ra_cons (re_str) (ra_cons (re_str) (ra_cons (re_str) (ra_cons (re_str) (ra_cons (re_str) (ra_cons (re_str) (ra_cons (re_str) (ra_cons (re_str) (ra_nil)))))))))) (re_slice (re_var 3 (pv 3)) ro_none (ro_some (re_int))))) (rss_cons (rs_set (i := 7) sc__law_spoil.nd rfl (by first | exact .inl rfl | exact .inr rfl) (re_ix (ix_all hu1) rr_ix (re_var 6 (pv 6)) (re_cal C__law_take hr (ra_cons (re_var 0 (pv 0)) (ra_cons (re_var 1 (pv 1)) (ra_cons (re_callB rl_len call_lenA rfl G.len (by decide +kernel) (ra_cons (re_var 6 (pv 6)) (ra_nil))) (ra_nil))))) (fun _ _ => rfl))) (rss_cons (rs_set (i := 8) sc__law_spoil.nd rfl (by first | exact .inl rfl | exact .inr rfl) (re_cal C__law_take hr (ra_cons (re_var 0 (pv 0)) (ra_cons (re_var 1 (pv 1)) (ra_cons (re_int) (ra_nil)))))) (rss_cons (rs_set (i := 9) sc__law_spoil.nd rfl (by first | exact .inl rfl | exact .inr rfl) (re_cal C__law_take hr (ra_cons (re_var 0 (pv 0)) (ra_cons (re_var 1 (pv 1)) (ra_cons (re_int) (ra_nil)))))) (rss_one (rs_for PassesOwn.never rfl (ri_rng2 rfl G.range (ra_cons (re_int) (ra_cons (re_int) (ra_nil)))) (ptg_name (pg_name (i := 10) sc__law_spoil.nd rfl (by first | exact .inl rfl | exact .inr rfl))) (rss_cons (rs_set (i := 4) sc__law_spoil.nd rfl (by first | exact .inl rfl | exact .inr rfl) (re_ix (ix_all hu1) rr_ix (re_var 2 (pv 2)) (re_var 10 (pv 10)) (fun _ _ => rfl))) (rss_one (rs_if (PW.pt (rw_and (rt_cmp (op_eqA hu) (rr_eq) (re_sub (re_var 10 (pv 10)) (re_int)) (re_mod (re_var 9 (pv 9)) (re_int)) (nomark _)) (rw_and1 (rt_cmp (op_gt) (rr_gt) (re_callB rl_len call_lenA rfl G.len (by decide +kernel) (ra_cons (re_var 4 (pv 4)) (ra_nil))) (re_int) (nomark _))))) (rss_cons (rs_if (rt_cmp (op_eqA hu) (rr_eq) (re_var 10 (pv 10)) (re_int) (nomark _)) (rss_one (rs_setIx hu1 (re_var 4 (pv 4)) (re_mod (re_var 8 (pv 8)) (re_callB rl_len call_lenA rfl G.len (by decide +kernel) (ra_cons (re_var 4 (pv 4)) (ra_nil)))) (re_var 7 (pv 7)))) (rss_nil)) (rss_cons (rs_if (rt_cmp (op_eqA hu) (rr_eq) (re_var 10 (pv 10)) (re_int) (nomark _)) (rss_one (rs_setIx hu1 (re_var 4 (pv 4)) (re_mod (re_var 8 (pv 8)) (re_callB rl_len call_lenA rfl G.len (by decide +kernel) (ra_cons (re_var 4 (pv 4)) (ra_nil)))) (re_var 5 (pv 5)))) (rss_nil)) (rss_cons (rs_if (PW.pt (rw_and (rt_cmp (op_eqA hu) (rr_eq) (re_var 10 (pv 10)) (re_int) (nomark _)) (rw_and (rt_cmp (op_eqA hu) (rr_eq) (re_var 9 (pv 9)) (re_int) (nomark _)) (rw_and1 (rt_cmp (op_eqA hu) (rr_eq) (re_mod (re_var 8 (pv 8)) (re_int)) (re_int) (nomark _)))))) (rss_one (rs_setIx hu1 (re_var 4 (pv 4)) (re_mod (re_var 8 (pv 8)) (re_callB rl_len call_lenA rfl G.len (by decide +kernel) (ra_cons (re_var 4 (pv 4)) (ra_nil)))) (re_tup (ra_cons (re_var 7 (pv 7)) (ra_cons (re_ix (ix_all hu1) rr_ix (re_ix (ix_all hu1) rr_ix (re_var 4 (pv 4)) (re_mod (re_var 8 (pv 8)) (re_callB rl_len call_lenA rfl G.len (by decide +kernel) (ra_cons (re_var 4 (pv 4)) (ra_nil)))) (fun _ _ => rfl)) (re_int) (fun _ _ => rfl)) (ra_nil)))))) (rss_nil)) (rss_cons (rs_if (PW.pt (rw_and (rt_cmp (op_eqA hu) (rr_eq) (re_var 10 (pv 10)) (re_int) (nomark _)) (rw_and1 (rt_cmp (op_eqA hu) (rr_eq) (re_mod (re_var 8 (pv 8)) (re_int)) (re_int) (nomark _))))) (rss_one (rs_setIx hu1 (re_var 4 (pv 4)) (re_mod (re_var 8 (pv 8)) (re_callB rl_len call_lenA rfl G.len (by decide +kernel) (ra_cons (re_var 4 (pv 4)) (ra_nil)))) (re_tup (ra_cons (re_ix (ix_all hu1) rr_ix (re_ix (ix_all hu1) rr_ix (re_var 4 (pv 4)) (re_mod (re_var 8 (pv 8)) (re_callB rl_len call_lenA rfl G.len (by decide +kernel) (ra_cons (re_var 4 (pv 4)) (ra_nil)))) (fun _ _ => rfl)) (re_int) (fun _ _ => rfl)) (ra_cons (re_var 5 (pv 5)) (ra_nil)))))) (rss_nil)) (rss_one (rs_if (rt_cmp (op_eqA hu) (rr_eq) (re_var 10 (pv 10)) (re_int) (nomark _)) (rss_one (rs_setIx hu1 (re_var 4 (pv 4)) (re_mod (re_var 8 (pv 8)) (re_callB rl_len call_lenA rfl G.len (by decide +kernel) (ra_cons (re_var 4 (pv 4)) (ra_nil)))) (re_tup (ra_cons (re_ix (ix_all hu1) rr_ix (re_ix (ix_all hu1) rr_ix (re_var 4 (pv 4)) (re_mod (re_var 8 (pv 8)) (re_callB rl_len call_lenA rfl G.len (by decide +kernel) (ra_cons (re_var 4 (pv 4)) (ra_nil)))) (fun _ _ => rfl)) (re_int) (fun _ _ => rfl)) (ra_cons (re_var 5 (pv 5)) (ra_nil)))))) (rss_nil))))))) (rss_nil)))))))))))
def nm__law_holds : List Str := ["text", "data", "told", "row"]
theorem sc__law_holds : FnScope nm__law_holds ["text", "data"] (defScope (top 41)) := ⟨rfl, rfl, rfl, by decide +kernel, rfl, by decide +kernel, by decide +kernel⟩
theorem d__law_holds {cl : CF} (G : Gb K w mg) (hcl : CfOk K cl) (T : Top K mg "_law_holds" (top 41)) {sp : DSp} (len : ∀ ds M Q E, sp ds M Q E → ds.length = 2)
    (hq : ∀ ds M Q E, sp ds M Q E → b__law_holds cl { nx := fun _ M' => Q .non M', rt := Q } (startD 4 ds) M) : Cal P w K mg base (k + 1) "_law_holds" ["text", "data"] sp := by
  refine cal_mk (N := nm__law_holds) T sc__law_holds (fun _ _ _ _ _ _ us hl => match us, hl with | [_, _], _ => rfl) (fun f cdv A outer s H E hr => ?_) len hq
  have hu := hu66 hr
  have hu1 := hu_of hr
  exact rss_cons (rs_if (PW.pt (rw_or (rt_not (rt_val (re_isi .int (re_fld hcl (re_var 0 (pv 0))) (pe_ty .int G.int) rfl G.isinstance))) (rw_or (rt_val (re_isi .bl (re_fld hcl (re_var 0 (pv 0))) (pe_ty .bl G.bool) rfl G.isinstance)) (rw_or1 (rt_cmp (op_neA hu) (rr_ne) (re_fld hcl (re_var 0 (pv 0))) (re_ix (ix_all hu1) rr_ix (re_var 1 (pv 1)) (re_int) (fun _ _ => rfl)) (nomark _)))))) (rss_one (rs_ret (re_bl))) (rss_nil)) (rss_cons (rs_for PassesOwn.never rfl (ri_val (re_lst (ra_cons (re_fld hcl (re_var 0 (pv 0))) (ra_cons (re_fld hcl (re_var 0 (pv 0))) (ra_cons (re_fld hcl (re_var 0 (pv 0))) (ra_cons (re_fld hcl (re_var 0 (pv 0))) (ra_nil))))))) (ptg_name (pg_name (i := 2) sc__law_holds.nd rfl (by first | exact .inl rfl | exact .inr rfl))) (rss_one (rs_if (rt_not (rt_val (re_isi .tup (re_var 2 (pv 2)) (pe_ty .tup G.tuple) rfl G.isinstance))) (rss_one (rs_ret (re_bl))) (rss_nil)))) (rss_cons (rs_for PassesOwn.never rfl (ri_val (re_add (re_fld hcl (re_var 0 (pv 0))) (re_fld hcl (re_var 0 (pv 0))))) (ptg_name (pg_name (i := 3) sc__law_holds.nd rfl (by first | exact .inl rfl | exact .inr rfl))) (rss_one (rs_if (PW.pt (rw_or (rt_not (rt_val (re_isi .tup (re_var 3 (pv 3)) (pe_ty .tup G.tuple) rfl G.isinstance))) (rw_or1 (rt_cmp (op_neA hu) (rr_ne) (re_callB rl_len call_lenA rfl G.len (by decide +kernel) (ra_cons (re_var 3 (pv 3)) (ra_nil))) (re_int) (nomark _))))) (rss_one (rs_ret (re_bl))) (rss_nil)))) (rss_cons (rs_if (PW.pt (rw_or (rt_cmp (op_neA hu) (rr_ne) (re_fld hcl (re_var 0 (pv 0))) (re_callTy rl_tuple call_tuple_of rfl G.tuple (by decide +kernel) (ra_cons (re_ix (ix_all hu1) rr_ix (re_var 1 (pv 1)) (re_int) (fun _ _ => rfl)) (ra_nil))) (nomark _)) (rw_or1 (rt_cmp (op_neA hu) (rr_ne) (re_fld hcl (re_var 0 (pv 0))) (re_callTy rl_tuple call_tuple_of rfl G.tuple (by decide +kernel) (ra_cons (re_ix (ix_all hu1) rr_ix (re_var 1 (pv 1)) (re_int) (fun _ _ => rfl)) (ra_nil))) (nomark _))))) (rss_one (rs_ret (re_bl))) (rss_nil)) (rss_one (rs_ret (re_and (re_cmp (op_eqA hu) (rr_eq) (re_fld hcl (re_var 0 (pv 0))) (re_callTy rl_tuple call_tuple_of rfl G.tuple (by decide +kernel) (ra_cons (re_ix (ix_all hu1) rr_ix (re_var 1 (pv 1)) (re_int) (fun _ _ => rfl)) (ra_nil))) (nomark _)) (re_one (re_cmp (op_eqA hu) (rr_eq) (re_fld hcl (re_var 0 (pv 0))) (re_callTy rl_tuple call_tuple_of rfl G.tuple (by decide +kernel) (ra_cons (re_ix (ix_all hu1) rr_ix (re_var 1 (pv 1)) (re_int) (fun _ _ => rfl)) (ra_nil))) (nomark _)))))))))
def nm_law : List Str := ["script", "numbers", "cursor", "data", "spoils", "k", "due", "handed", "line", "text", "row", "e"]
theorem sc_law : FnScope nm_law ["script"] (defScope (top 42)) := ⟨rfl, rfl, rfl, by decide +kernel, rfl, by decide +kernel, by decide +kernel⟩
theorem d_law {c_Text : Addr} {s_Text : DSp} {c_BadText : Addr} {c_NoneshorterError : Addr} {c_BadBook : Addr} {s__law_stream s__law_data s__law_take s__law_spoil s__law_due s__law_holds : DSp} (G : Gb K w mg) (M_BadText : mg "BadText" = some (.ref c_BadText)) (M_NoneshorterError : mg "NoneshorterError" = some (.ref c_NoneshorterError)) (M_BadBook : mg "BadBook" = some (.ref c_BadBook)) (XF_BadText : XfC K c_BadText) (EC_BadText : ExcC K c_BadText) (NO_BadText : PySem.W.findIn K (.ref c_BadText) "line" = some none) (I_Text : CalIX P w K mg base k "Text" c_Text ["self", "width", "inputs", "needs", "lets", "outs"] s_Text) (C__law_stream : Cal P w K mg base (k + 1) "_law_stream" ["script", "many"] s__law_stream) (C__law_data : Cal P w K mg base (k + 1) "_law_data" ["numbers", "cursor"] s__law_data) (C__law_take : Cal P w K mg base (k + 1) "_law_take" ["numbers", "cursor", "many"] s__law_take) (C__law_spoil : Cal P w K mg base (k + 1) "_law_spoil" ["numbers", "cursor", "data"] s__law_spoil) (C__law_due : Cal P w K mg base (k + 1) "_law_due" ["width", "inputs", "needs", "lets", "outs"] s__law_due) (C__law_holds : Cal P w K mg base (k + 1) "_law_holds" ["text", "data"] s__law_holds) {f : Addr} {fd : FuncData} (F : FunD K "law" "law" (defArgs (top 42)) (defBody (top 42)) (defScope (top 42)) [] [] f fd) {sp : DSp} (len : ∀ ds M Q E, sp ds M Q E → ds.length = 1)
    (hq : ∀ ds M Q E, sp ds M Q E → b_law_v3 c_Text s_Text c_BadText c_NoneshorterError c_BadBook (fun cls => PySem.W.exmOne K cls (.ref c_BadText)) (fun t => PySem.W.kitOne K t (.ref c_NoneshorterError)) (fun t => PySem.W.kitOne K t (.type "ValueError")) (fun t => PySem.W.kitOne K t (.ref c_BadBook)) s__law_stream s__law_data s__law_take s__law_spoil s__law_due s__law_holds { nx := fun _ M' => Q .non M', rt := Q } (startD 12 ds) M) : FnOk P w K mg base CX0 ((k + 1) + 1) f fd ["script"] (spD K w sp) := by
  refine fn_ok (N := nm_law) F sc_law len (fun cdv A outer s H E hr => ?_) hq
  have hu := hu66 hr
  have hu1 := hu_of hr
  exact rss_cons (rs_set (i := 1) sc_law.nd rfl (by first | exact .inl rfl | exact .inr rfl) (re_cal C__law_stream hr (ra_cons (re_var 0 (pv 0)) (ra_cons (re_int) (ra_nil))))) (rss_cons (rs_set (i := 2) sc_law.nd rfl (by first | exact .inl rfl | exact .inr rfl) (re_lst (ra_cons (re_int) (ra_nil)))) (rss_cons (rs_set (i := 3) sc_law.nd rfl (by first | exact .inl rfl | exact .inr rfl) (re_cal C__law_data hr (ra_cons (re_var 1 (pv 1)) (ra_cons (re_var 2 (pv 2)) (ra_nil))))) (rss_cons (rs_set (i := 4) sc_law.nd rfl (by first | exact .inl rfl | exact .inr rfl) (re_ix (ix_all hu1) rr_ix (re_lst (ra_cons (re_int) (ra_cons (re_int) (ra_cons (re_int) (ra_cons (re_int) (ra_nil)))))) (re_cal C__law_take hr (ra_cons (re_var 1 (pv 1)) (ra_cons (re_var 2 (pv 2)) (ra_cons (re_int) (ra_nil))))) (fun _ _ => rfl))) (rss_cons (rs_for PassesOwn.never rfl (ri_rng1 rfl G.range (ra_cons (re_var 4 (pv 4)) (ra_nil))) (ptg_name (pg_name (i := 5) sc_law.nd rfl (by first | exact .inl rfl | exact .inr rfl))) (rss_one (rs_expr (re_cal C__law_spoil hr (ra_cons (re_var 1 (pv 1)) (ra_cons (re_var 2 (pv 2)) (ra_cons (re_var 3 (pv 3)) (ra_nil)))))))) (rss_cons (rs_set (i := 6) sc_law.nd rfl (by first | exact .inl rfl | exact .inr rfl) (re_cal C__law_due hr (ra_cons (re_ix (ix_all hu1) rr_ix (re_var 3 (pv 3)) (re_int) (fun _ _ => rfl)) (ra_cons (re_ix (ix_all hu1) rr_ix (re_var 3 (pv 3)) (re_int) (fun _ _ => rfl)) (ra_cons (re_ix (ix_all hu1) rr_ix (re_var 3 (pv 3)) (re_int) (fun _ _ => rfl)) (ra_cons (re_ix (ix_all hu1) rr_ix (re_var 3 (pv 3)) (re_int) (fun _ _ => rfl)) (ra_cons (re_ix (ix_all hu1) rr_ix (re_var 3 (pv 3)) (re_int) (fun _ _ => rfl)) (ra_nil)))))))) (rss_cons (rs_set (i := 7) sc_law.nd rfl (by first | exact .inl rfl | exact .inr rfl) (re_lst (ra_cons (re_callTy rl_list call_list_of rfl G.list (by decide +kernel) (ra_cons (re_ix (ix_all hu1) rr_ix (re_var 3 (pv 3)) (re_int) (fun _ _ => rfl)) (ra_nil))) (ra_cons (re_callTy rl_list call_list_of rfl G.list (by decide +kernel) (ra_cons (re_ix (ix_all hu1) rr_ix (re_var 3 (pv 3)) (re_int) (fun _ _ => rfl)) (ra_nil))) (ra_cons (re_callTy rl_list call_list_of rfl G.list (by decide +kernel) (ra_cons (re_ix (ix_all hu1) rr_ix (re_var 3 (pv 3)) (re_int) (fun _ _ => rfl)) (ra_nil))) (ra_cons (re_callTy rl_list call_list_of rfl G.list (by decide +kernel) (ra_cons (re_ix (ix_all hu1) rr_ix (re_var 3 (pv 3)) (re_int) (fun _ _ => rfl)) (ra_nil))) (ra_nil))))))) (rss_cons (rs_set (i := 8) sc_law.nd rfl (by first | exact .inl rfl | exact .inr rfl) (re_int)) (rss_cons (rs_set (i := 9) sc_law.nd rfl (by first | exact .inl rfl | exact .inr rfl) (re_non)) (rss_cons (rs_tryAs rfl rfl sc_law.nd rfl rfl ⟨rfl, by decide, .inl M_BadText⟩ (fun pn xe po => rss_one (rs_asgMkX (i := 9) sc_law.nd rfl (by first | exact .inl rfl | exact .inr rfl) I_Text hr (ra_cons (re_ix (ix_all hu1) rr_ix (re_var 3 (pv 3)) (re_int) (fun _ _ => rfl)) (ra_cons (re_ix (ix_all hu1) rr_ix (re_var 7 (pv 7)) (re_int) (fun _ _ => rfl)) (ra_cons (re_ix (ix_all hu1) rr_ix (re_var 7 (pv 7)) (re_int) (fun _ _ => rfl)) (ra_cons (re_ix (ix_all hu1) rr_ix (re_var 7 (pv 7)) (re_int) (fun _ _ => rfl)) (ra_cons (re_ix (ix_all hu1) rr_ix (re_var 7 (pv 7)) (re_int) (fun _ _ => rfl)) (ra_nil)))))))) (fun a oe cls d pn hz hf => rss_cons (rs_set (i := 8) sc_law.nd rfl (by first | exact .inl rfl | exact .inr rfl) (re_xf XF_BadText NO_BadText hz hf (re_var 11 (pv 11)))) (rss_one (rs_if (PW.pt (rw_or (rt_not (rt_val (re_isX EC_BadText hz hf (re_var 11 (pv 11)) (pe_glob (v := .ref c_NoneshorterError) rfl M_NoneshorterError rfl) (fun _ h => h) rfl G.isinstance))) (rw_or (rt_not (rt_val (re_isX EC_BadText hz hf (re_var 11 (pv 11)) (pe_bltn (v := .ty "ValueError") rfl G.ValueError (by decide +kernel) rfl) (fun _ h => h) rfl G.isinstance))) (rw_or1 (rt_val (re_isX EC_BadText hz hf (re_var 11 (pv 11)) (pe_glob (v := .ref c_BadBook) rfl M_BadBook rfl) (fun _ h => h) rfl G.isinstance)))))) (rss_one (rs_ret (re_bl))) (rss_nil))))) (rss_cons (rs_if (rt_cmp (op_neA hu) (rr_ne) (re_var 7 (pv 7)) (re_lst (ra_cons (re_ix (ix_all hu1) rr_ix (re_var 3 (pv 3)) (re_int) (fun _ _ => rfl)) (ra_cons (re_ix (ix_all hu1) rr_ix (re_var 3 (pv 3)) (re_int) (fun _ _ => rfl)) (ra_cons (re_ix (ix_all hu1) rr_ix (re_var 3 (pv 3)) (re_int) (fun _ _ => rfl)) (ra_cons (re_ix (ix_all hu1) rr_ix (re_var 3 (pv 3)) (re_int) (fun _ _ => rfl)) (ra_nil)))))) (nomark _)) (rss_one (rs_ret (re_bl))) (rss_nil)) (rss_cons (rs_if (rt_cmp (op_gt) (rr_gt) (re_var 6 (pv 6)) (re_int) (nomark _)) (rss_one (rs_ret (re_and (re_isi .int (re_var 8 (pv 8)) (pe_ty .int G.int) rfl G.isinstance) (re_and (re_not (re_isi .bl (re_var 8 (pv 8)) (pe_ty .bl G.bool) rfl G.isinstance)) (re_one (re_cmp (op_eqA hu) (rr_eq) (re_var 8 (pv 8)) (re_var 6 (pv 6)) (nomark _))))))) (rss_nil)) (rss_cons (rs_if (PW.pt (rw_or (rt_cmp (op_neA hu) (rr_ne) (re_var 8 (pv 8)) (re_int) (nomark _)) (rw_or1 (rt_not (rt_val (re_cal C__law_holds hr (ra_cons (re_var 9 (pv 9)) (ra_cons (re_var 3 (pv 3)) (ra_nil))))))))) (rss_one (rs_ret (re_bl))) (rss_nil)) (rss_cons (rs_for PassesOwn.never rfl (ri_val (re_var 7 (pv 7))) (ptg_name (pg_name (i := 10) sc_law.nd rfl (by first | exact .inl rfl | exact .inr rfl))) (rss_one (rs_expr (re_append (re_var 10 (pv 10)) (re_tup (ra_cons (re_str) (ra_cons (re_int) (ra_nil)))))))) (rss_one (rs_ret (re_cal C__law_holds hr (ra_cons (re_var 9 (pv 9)) (ra_cons (re_var 3 (pv 3)) (ra_nil)))))))))))))))))))
def nm_Text__init__ : List Str := ["self", "width", "inputs", "needs", "lets", "outs", "name", "formula", "register", "line"]
theorem sc_Text__init__ : FnScope nm_Text__init__ ["self", "width", "inputs", "needs", "lets", "outs"] (defScope (met 21 0)) := ⟨rfl, rfl, rfl, by decide +kernel, rfl, by decide +kernel, by decide +kernel⟩
theorem d_Text__init__ {cl : CF} {c_BadText : Addr} {s_first_bad_line : DSp} (G : Gb K w mg) (hcl : CfOk K cl) (M_BadText : mg "BadText" = some (.ref c_BadText)) (E_BadText : CalE P w K mg base k "BadText" c_BadText "line" okNat) (C_first_bad_line : Cal P w K mg base (k + 1) "first_bad_line" ["text"] s_first_bad_line) {C f : Addr} {fd : FuncData} (F : FunD K "__init__" "Text.__init__" (defArgs (met 21 0)) (defBody (met 21 0)) (defScope (met 21 0)) [] [] f fd) (M0 : Mk K C f) (hm : mg "Text" = some (.ref C)) {sp : DSp} (len : ∀ ds M Q E, sp ds M Q E → ds.length = 6)
    (hq : ∀ ds M Q E, sp ds M Q E → b_Text__init___v3 cl c_BadText s_first_bad_line { nx := fun _ M' => Q .non M', rt := Q, xc := fun cls d _ M' => E cls d M' } (startD 10 ds) M) : CalIX P w K mg base ((k + 1) + 1) "Text" C ["self", "width", "inputs", "needs", "lets", "outs"] sp := by
  refine calix_mk (N := nm_Text__init__) F M0 hm sc_Text__init__ (fun _ _ _ _ _ _ us hl => match us, hl with | [_, _, _, _, _, _], _ => rfl) (fun cdv A outer s H E hr => ?_) len hq
  have hu := hu66 hr
  have hu1 := hu_of hr
  exact rss_cons (rs_setFld hcl (re_var 0 (pv 0)) (re_var 1 (pv 1))) (rss_cons (rs_setFld hcl (re_var 0 (pv 0)) (re_callTy rl_tuple call_tuple_of rfl G.tuple (by decide +kernel) (ra_cons (re_var 2 (pv 2)) (ra_nil)))) (rss_cons (rs_setFld hcl (re_var 0 (pv 0)) (re_callTy rl_tuple call_tuple_of rfl G.tuple (by decide +kernel) (ra_cons (re_var 3 (pv 3)) (ra_nil)))) (rss_cons (rs_setFld hcl (re_var 0 (pv 0)) (re_callTy rl_tuple call_tuple_of rfl G.tuple (by decide +kernel) (ra_cons (re_lc (tG := gTup K 2 (gNames [6, 7])) (own := [("name", 6), ("formula", 7)]) rfl sc_Text__init__.nd (ri_val (re_var 4 (pv 4))) (blkOk_by (own := [("name", 6), ("formula", 7)]) (N := nm_Text__init__) (sc := defScope (met 21 0)) (by decide +kernel)) (by decide) (fun _ _ _ _ _ => (ptg_two rfl (pg_name (i := 6) sc_Text__init__.nd rfl (by first | exact .inl rfl | exact .inr rfl)) (pg_name (i := 7) sc_Text__init__.nd rfl (by first | exact .inl rfl | exact .inr rfl)))) (fun _ _ _ _ _ => rts_nil) (fun _ _ _ _ _ => re_tup (ra_cons (re_var 6 (pv 6)) (ra_cons (re_var 7 (pv 7)) (ra_nil))))) (ra_nil)))) (rss_cons (rs_setFld hcl (re_var 0 (pv 0)) (re_callTy rl_tuple call_tuple_of rfl G.tuple (by decide +kernel) (ra_cons (re_lc (tG := gTup K 2 (gNames [8, 7])) (own := [("register", 8), ("formula", 7)]) rfl sc_Text__init__.nd (ri_val (re_var 5 (pv 5))) (blkOk_by (own := [("register", 8), ("formula", 7)]) (N := nm_Text__init__) (sc := defScope (met 21 0)) (by decide +kernel)) (by decide) (fun _ _ _ _ _ => (ptg_two rfl (pg_name (i := 8) sc_Text__init__.nd rfl (by first | exact .inl rfl | exact .inr rfl)) (pg_name (i := 7) sc_Text__init__.nd rfl (by first | exact .inl rfl | exact .inr rfl)))) (fun _ _ _ _ _ => rts_nil) (fun _ _ _ _ _ => re_tup (ra_cons (re_var 8 (pv 8)) (ra_cons (re_var 7 (pv 7)) (ra_nil))))) (ra_nil)))) (rss_cons (rs_set (i := 9) sc_Text__init__.nd rfl (by first | exact .inl rfl | exact .inr rfl) (re_cal C_first_bad_line hr (ra_cons (re_var 0 (pv 0)) (ra_nil)))) (rss_one (rs_if (rt_cmp (op_gt) (rr_gt) (re_var 9 (pv 9)) (re_int) (nomark _)) (rss_one (rs_raise E_BadText hr okNat_rep rfl (re_var 9 (pv 9)))) (rss_nil))))))))
end
end K86

set_option Elab.async false
set_option linter.all false
set_option autoImplicit false
set_option maxRecDepth 100000
set_option maxHeartbeats 4000000
/-! readings: words and operations -/
namespace Rd
open PySem PySem.Spec PyProof.Rows L2 DH Bd
theorem qd {Q : DQ} {d d' : D} {M : Mm} (h : Q d M) (e : d' = d) : Q d' M := by rw [e]; exact h
theorem qi {Q : DQ} {a b : Int} {M : Mm} (h : Q (.int b) M) (e : a = b) : Q (.int a) M := by rw [e]; exact h
theorem qb {Q : DQ} {a b : Bool} {M : Mm} (h : Q (.bl b) M) (e : a = b) : Q (.bl a) M := by rw [e]; exact h
abbrev En (Q : DQ) : DEnds := { nx := fun _ M' => Q .non M', rt := Q }
/-! ### words -/
def sp_word_limit : DSp := fun ds M Q _ => ∃ w : Nat, ds = [.int w] ∧ w ≤ 1000 ∧ Q (.int ((2 ^ w : Nat) : Int)) M
theorem pow_cast (w : Nat) : (1 : Int) * 2 ^ ((w : Int).toNat) = ((2 ^ w : Nat) : Int) := by
  rw [Int.toNat_natCast, Int.one_mul]; norm_cast
theorem cpow {i : Int} (w : Nat) (hw : w ≤ 1000) (hi : i.natAbs < 2 ^ 64) : CPow i (w : Int) := ⟨by omega, by omega, hi⟩
theorem r_word_limit : ∀ ds M Q E, sp_word_limit ds M Q E → b_word_limit (En Q) (startD 1 ds) M := by
  rintro ds M Q E ⟨w, rfl, hw, h⟩
  exact ⟨cpow w hw (by decide), qi h (pow_cast w)⟩
def sgn (w : Nat) (x : Nat) : Int := if x ≥ 2 ^ w / 2 then (x : Int) - (2 ^ w : Nat) else x
def sp_signed_value : DSp := fun ds M Q _ => ∃ w x : Nat, ds = [.int w, .int x] ∧ w ≤ 1000 ∧ Q (.int (sgn w x)) M
theorem r_signed_value : ∀ ds M Q E, sp_signed_value ds M Q E → b_signed_value sp_word_limit (En Q) (startD 2 ds) M := by
  rintro ds M Q E ⟨w, x, rfl, hw, h⟩
  refine ⟨w, rfl, hw, ⟨by decide, by decide⟩, fun hb => ?_, fun hb => ?_⟩
  · have hb := of_decide_eq_true hb
    refine ⟨w, rfl, hw, ?_⟩
    refine qi h ?_
    unfold sgn
    rw [if_pos (by omega)]
  · have hb := of_decide_eq_false hb
    refine qi h ?_
    unfold sgn
    rw [if_neg (by omega)]
/-- the operations -/
inductive Op where
  | not | neg | and | or | xor | add | sub | mul | shl | shr | eq | lt | slt | pick
  deriving DecidableEq
def Op.nm : Op → Str
  | .not => "not" | .neg => "neg" | .and => "and" | .or => "or" | .xor => "xor" | .add => "add" | .sub => "sub" | .mul => "mul" | .shl => "shl" | .shr => "shr" | .eq => "eq" | .lt => "lt" | .slt => "slt" | .pick => "pick"
def Op.ar : Op → Nat
  | .not => 1 | .neg => 1 | .pick => 3 | _ => 2
def b2n (b : Bool) : Nat := if b then 1 else 0
/-- what an operation yields -/
def Op.v (w : Nat) : Op → List Nat → Nat
  | .not, [x] => 2 ^ w - 1 - x
  | .neg, [x] => (2 ^ w - x) % 2 ^ w
  | .and, [x, y] => x &&& y
  | .or, [x, y] => x ||| y
  | .xor, [x, y] => x ^^^ y
  | .add, [x, y] => (x + y) % 2 ^ w
  | .sub, [x, y] => (x + 2 ^ w - y) % 2 ^ w
  | .mul, [x, y] => x * y % 2 ^ w
  | .shl, [x, y] => x * 2 ^ y % 2 ^ w
  | .shr, [x, y] => x / 2 ^ y
  | .eq, [x, y] => b2n (x == y)
  | .lt, [x, y] => b2n (decide (x < y))
  | .slt, [x, y] => b2n (decide (sgn w x < sgn w y))
  | .pick, [x, y, z] => if x = 0 then z else y
  | _, _ => 0
def sp_operate_one : DSp := fun ds M Q _ => ∃ (o : Op) (w x : Nat), ds = [.str o.nm, .int w, .int x] ∧ o.ar = 1 ∧ 1 ≤ w ∧ w ≤ 4 ∧ x < 2 ^ w ∧ Q (.int (o.v w [x])) M
theorem sm {w x : Nat} (hw : w ≤ 4) (hx : x < 2 ^ w) : x < 16 := Nat.lt_of_lt_of_le hx (Nat.pow_le_pow_right (by decide) hw)
theorem neg_ok : ∀ w : Fin 5, ∀ x : Fin 16, x.1 < 2 ^ w.1 → Builtin.bitAnd (((2 ^ w.1 : Nat) : Int) - (x.1 : Int)) (((2 ^ w.1 : Nat) : Int) - 1) = ((Op.neg.v w.1 [x.1] : Nat) : Int) := by decide +kernel
theorem r_operate_one : ∀ ds M Q E, sp_operate_one ds M Q E → b_operate_one sp_word_limit (En Q) (startD 3 ds) M := by
  rintro ds M Q E ⟨o, w, x, rfl, ha, h1, h4, hx, h⟩
  refine ⟨fun hb => ⟨w, rfl, by omega, ?_⟩, fun hb => ⟨w, rfl, by omega, w, rfl, by omega, ?_⟩⟩
  · cases o <;> first | (exact absurd ha (by decide)) | (exact absurd hb (by decide)) | skip
    refine qi h ?_
    show ((2 ^ w : Nat) : Int) - 1 - (x : Int) = ((2 ^ w - 1 - x : Nat) : Int)
    omega
  · cases o <;> first | (exact absurd ha (by decide)) | (exact absurd hb (by decide)) | skip
    exact qi h (neg_ok ⟨w, by omega⟩ ⟨x, sm h4 hx⟩ hx)
def sp_operate_bits : DSp := fun ds M Q _ => ∃ (o : Op) (w x y : Nat), ds = [.str o.nm, .int x, .int y] ∧ (o = .and ∨ o = .or ∨ o = .xor) ∧ w ≤ 4 ∧ x < 2 ^ w ∧ y < 2 ^ w ∧ Q (.int (o.v w [x, y])) M
theorem and_ok (x y : Nat) : Builtin.bitAnd (x : Int) (y : Int) = ((x &&& y : Nat) : Int) := by
  unfold Builtin.bitAnd
  rw [show decide ((0 : Int) ≤ (x : Int)) = true from decide_eq_true (by omega), show decide ((0 : Int) ≤ (y : Int)) = true from decide_eq_true (by omega)]
  rfl
theorem or_ok : ∀ x y : Fin 16, Builtin.bitOr (x.1 : Int) (y.1 : Int) = ((x.1 ||| y.1 : Nat) : Int) := by decide +kernel
theorem xor_ok : ∀ x y : Fin 16, Builtin.bitXor (x.1 : Int) (y.1 : Int) = ((x.1 ^^^ y.1 : Nat) : Int) := by decide +kernel
theorem r_operate_bits : ∀ ds M Q E, sp_operate_bits ds M Q E → b_operate_bits (En Q) (startD 3 ds) M := by
  rintro ds M Q E ⟨o, w, x, y, rfl, ho, h4, hx, hy, h⟩
  refine ⟨fun hb => ?_, fun hb => ⟨fun hc => ?_, fun hc => ?_⟩⟩
  · rcases ho with rfl | rfl | rfl <;> first | (exact absurd hb (by decide)) | skip
    exact qi h (and_ok x y)
  · rcases ho with rfl | rfl | rfl <;> first | (exact absurd hc (by decide)) | skip
    exact qi h (or_ok ⟨x, sm h4 hx⟩ ⟨y, sm h4 hy⟩)
  · rcases ho with rfl | rfl | rfl <;> first | (exact absurd hc (by decide)) | (exact absurd hb (by decide)) | skip
    exact qi h (xor_ok ⟨x, sm h4 hx⟩ ⟨y, sm h4 hy⟩)
def sp_operate_sum : DSp := fun ds M Q _ => ∃ (o : Op) (w x y : Nat), ds = [.str o.nm, .int w, .int x, .int y] ∧ (o = .add ∨ o = .sub ∨ o = .mul ∨ o = .shl ∨ o = .shr) ∧ w ≤ 4 ∧ x < 2 ^ w ∧ y < 2 ^ w ∧ Q (.int (o.v w [x, y])) M
theorem mask_ok : ∀ w : Fin 5, ∀ x y : Fin 16, y.1 < 2 ^ w.1 → Builtin.bitAnd ((x.1 : Int) + (y.1 : Int)) (((2 ^ w.1 : Nat) : Int) - 1) = ((Op.add.v w.1 [x.1, y.1] : Nat) : Int) ∧ Builtin.bitAnd ((x.1 : Int) - (y.1 : Int)) (((2 ^ w.1 : Nat) : Int) - 1) = ((Op.sub.v w.1 [x.1, y.1] : Nat) : Int) ∧
    Builtin.bitAnd ((x.1 : Int) * (y.1 : Int)) (((2 ^ w.1 : Nat) : Int) - 1) = ((Op.mul.v w.1 [x.1, y.1] : Nat) : Int) ∧ Builtin.bitAnd ((x.1 : Int) * 2 ^ (y.1 : Int).toNat) (((2 ^ w.1 : Nat) : Int) - 1) = ((Op.shl.v w.1 [x.1, y.1] : Nat) : Int) := by decide +kernel
theorem shr_ok (x y : Nat) : (x : Int) / 2 ^ (y : Int).toNat = ((x / 2 ^ y : Nat) : Int) := by
  rw [Int.toNat_natCast]; norm_cast
theorem r_operate_sum : ∀ ds M Q E, sp_operate_sum ds M Q E → b_operate_sum sp_word_limit (En Q) (startD 5 ds) M := by
  rintro ds M Q E ⟨o, w, x, y, rfl, ho, h4, hx, hy, h⟩
  have hx6 := sm h4 hx
  have hy6 := sm h4 hy
  have g := mask_ok ⟨w, by omega⟩ ⟨x, hx6⟩ ⟨y, hy6⟩ hy
  refine ⟨w, rfl, by omega, fun ha => ?_, fun ha => ⟨fun hb => ?_, fun hb => ⟨fun hc => ⟨.inl ⟨by omega, by omega⟩, ?_⟩, fun hc => ⟨fun hd => ⟨⟨by omega, by omega, by omega⟩, ?_⟩, fun hd => ⟨by omega, ?_⟩⟩⟩⟩⟩
  · rcases ho with rfl | rfl | rfl | rfl | rfl <;> first | (exact absurd ha (by decide)) | skip
    exact qi h g.1
  · rcases ho with rfl | rfl | rfl | rfl | rfl <;> first | (exact absurd hb (by decide)) | skip
    exact qi h g.2.1
  · rcases ho with rfl | rfl | rfl | rfl | rfl <;> first | (exact absurd hc (by decide)) | skip
    exact qi h g.2.2.1
  · rcases ho with rfl | rfl | rfl | rfl | rfl <;> first | (exact absurd hd (by decide)) | skip
    exact qi h g.2.2.2
  · rcases ho with rfl | rfl | rfl | rfl | rfl <;> first | (exact absurd ha (by decide)) | (exact absurd hb (by decide)) | (exact absurd hc (by decide)) | (exact absurd hd (by decide)) | skip
    exact qi h (shr_ok x y)
def sp_operate_order : DSp := fun ds M Q _ => ∃ (o : Op) (w x y : Nat), ds = [.str o.nm, .int w, .int x, .int y] ∧ (o = .eq ∨ o = .lt ∨ o = .slt) ∧ w ≤ 4 ∧ x < 2 ^ w ∧ y < 2 ^ w ∧ Q (.int (o.v w [x, y])) M
theorem bi_ok (b c : Bool) (h : b = c) : (if b = true then (1 : Int) else 0) = ((b2n c : Nat) : Int) := by
  subst h; cases b <;> rfl
theorem r_operate_order : ∀ ds M Q E, sp_operate_order ds M Q E → b_operate_order sp_signed_value (En Q) (startD 4 ds) M := by
  rintro ds M Q E ⟨o, w, x, y, rfl, ho, h4, hx, hy, h⟩
  refine ⟨fun ha => ?_, fun ha => ⟨fun hb => ?_, fun hb => ⟨w, x, rfl, by omega, w, y, rfl, by omega, ?_⟩⟩⟩
  · rcases ho with rfl | rfl | rfl <;> first | (exact absurd ha (by decide)) | skip
    refine qi h (bi_ok _ _ ?_)
    rw [Bool.eq_iff_iff]; simp; omega
  · rcases ho with rfl | rfl | rfl <;> first | (exact absurd hb (by decide)) | skip
    refine qi h (bi_ok _ _ ?_)
    rw [Bool.eq_iff_iff]; simp
  · rcases ho with rfl | rfl | rfl <;> first | (exact absurd ha (by decide)) | (exact absurd hb (by decide)) | skip
    exact qi h (bi_ok _ _ rfl)
/-- the arguments of an operation as a list object or a tuple -/
def SeqM (M : Mm) (d : D) (ds : List D) : Prop := d = .tup ds ∨ ∃ a, d = .ref a ∧ IsL M a ds
abbrev wds (xs : List Nat) : List D := xs.map fun x : Nat => D.int (x : Int)
def sp_operate : DSp := fun ds M Q _ => ∃ (o : Op) (w : Nat) (xs : List Nat) (d : D), ds = [.str o.nm, .int w, d] ∧ SeqM M d (wds xs) ∧ xs.length = o.ar ∧ 1 ≤ w ∧ w ≤ 4 ∧ (∀ x ∈ xs, x < 2 ^ w) ∧ Q (.int (o.v w xs)) M
local macro_rules | `(tactic| walk_at "dx") => `(tactic| first | (refine ⟨_, rfl, ?_⟩) | (refine Or.inl ⟨_, _, _, by assumption, rfl, rfl, ?_⟩))
local macro_rules | `(tactic| walk_at "dl") => `(tactic| first | (refine Or.inl ⟨_, by assumption, ?_⟩) | skip)
theorem r_operate : ∀ ds M Q E, sp_operate ds M Q E → b_operate sp_operate_one sp_operate_bits sp_operate_order sp_operate_sum (En Q) (startD 3 ds) M := by
  rintro ds M Q E ⟨o, w, xs, d, rfl, hs, hl, h1, h4, hx, h⟩
  rcases hs with rfl | ⟨a, rfl, ha⟩
  all_goals
    refine ⟨fun hp => ?_, fun hp => ?_⟩
    · cases o <;> first | (exact absurd hp (by decide)) | skip
      obtain ⟨x, y, z, rfl⟩ : ∃ x y z, xs = [x, y, z] := by
        match xs, hl with
        | [x, y, z], _ => exact ⟨x, y, z, rfl⟩
      walk_at "dx"
      refine ⟨fun hb => ?_, fun hb => ?_⟩
      · walk_at "dx"
        have : x ≠ 0 := fun e => by subst e; exact absurd hb (by decide)
        refine qi h ?_
        show (y : Int) = ((if x = 0 then z else y : Nat) : Int)
        rw [if_neg this]
      · walk_at "dx"
        have : x = 0 := by simpa using hb
        refine qi h ?_
        show (z : Int) = ((if x = 0 then z else y : Nat) : Int)
        rw [if_pos this]
    · walk_at "dl"
      refine ⟨fun hb => ?_, fun hb => ?_⟩
      · have hb := of_decide_eq_true hb
        rw [List.length_map] at hb
        obtain ⟨x, rfl⟩ : ∃ x, xs = [x] := by
          match xs, hb with
          | [x], _ => exact ⟨x, rfl⟩
        walk_at "dx"
        exact ⟨o, w, x, rfl, hl.symm, h1, h4, hx x (by simp), h⟩
      · have hb := of_decide_eq_false hb
        rw [List.length_map] at hb
        have hne : o ≠ .pick := fun e => by subst e; exact absurd hp (by decide)
        have h2 : o.ar = 2 := by cases o <;> first | rfl | (exact absurd rfl hne) | (exfalso; apply hb; rw [hl]; rfl)
        obtain ⟨x, y, rfl⟩ : ∃ x y, xs = [x, y] := by
          rw [h2] at hl
          match xs, hl with
          | [x, y], _ => exact ⟨x, y, rfl⟩
        have hx1 := hx x (by simp)
        have hy1 := hx y (by simp)
        refine ⟨by decide, rfl, rfl, fun hc => ?_, fun hc => ⟨by decide, rfl, rfl, fun hd => ?_, fun hd => ?_⟩⟩
        · walk_at "dx"
          walk_at "dx"
          refine ⟨o, w, x, y, rfl, ?_, h4, hx1, hy1, h⟩
          cases o <;> first | (exact absurd hc (by decide)) | simp
        · walk_at "dx"
          walk_at "dx"
          refine ⟨o, w, x, y, rfl, ?_, h4, hx1, hy1, h⟩
          cases o <;> first | (exact absurd hd (by decide)) | simp
        · walk_at "dx"
          walk_at "dx"
          refine ⟨o, w, x, y, rfl, ?_, h4, hx1, hy1, h⟩
          cases o <;> first | (exact absurd h2 (by decide)) | (exact absurd hc (by decide)) | (exact absurd hd (by decide)) | simp
end Rd

set_option Elab.async false
set_option linter.all false
set_option autoImplicit false
set_option maxRecDepth 100000
set_option maxHeartbeats 4000000
/-! readings: formulas -/
namespace Rd
open PySem PySem.Spec PyProof.Rows L2 DH Bd
/-! ### lists -/
theorem cut1 {ds : List D} : cutL D ds (some 1) none = ds.drop 1 := by
  unfold cutL
  rw [show HT.sIx ds.length 0 (some 1) = min 1 ds.length from HT.sIx_nat ds.length 0 1, HT.sIx_none]
  cases ds with
  | nil => rfl
  | cons x r =>
    rw [show min 1 (x :: r).length = 1 by rw [List.length_cons]; omega]
    show List.take ((x :: r).length - 1) r = r
    rw [List.length_cons, Nat.add_sub_cancel]
    exact List.take_length
theorem take_snoc {α : Type} {l : List α} {i : Nat} {x : α} (h : l[i]? = some x) : l.take (i + 1) = l.take i ++ [x] := by
  rw [List.take_add_one, h]; rfl
theorem mem_at {α : Type} {l : List α} {i : Nat} {x : α} (h : l[i]? = some x) : x ∈ l := List.mem_of_getElem? h
theorem lt_at {α : Type} {l : List α} {i : Nat} {x : α} (h : l[i]? = some x) : i < l.length := (List.getElem?_eq_some_iff.mp h).1
theorem at0 {α : Type} {x : α} {r : List α} : atI (x :: r) 0 = some x := atI_nat (j := 0) rfl
/-! ### trees of numbers, texts and tuples -/
mutual
def tree : D → Bool
  | .int _ | .str _ => true
  | .tup ds => trees ds
  | _ => false
def trees : List D → Bool
  | [] => true
  | d :: ds => tree d && trees ds
end
mutual
def sizeD : D → Nat
  | .tup (_ :: t) => 1 + sizeDs t
  | _ => 1
def sizeDs : List D → Nat
  | [] => 0
  | d :: ds => sizeD d + sizeDs ds
end
mutual
def depthD : D → Nat
  | .tup [] => 1
  | .tup (_ :: t) => depthDs t + 1
  | _ => 0
def depthDs : List D → Nat
  | [] => 0
  | d :: ds => max (depthD d) (depthDs ds)
end
theorem trees_mem : ∀ {ds : List D}, trees ds = true → ∀ d ∈ ds, tree d = true
  | [], _, _, h => by cases h
  | e :: ds, ht, d, h => by
    unfold trees at ht
    obtain ⟨h1, h2⟩ := Bool.and_eq_true_iff.mp ht
    rcases List.mem_cons.mp h with rfl | h
    · exact h1
    · exact trees_mem h2 d h
theorem sizeDs_snoc : ∀ (ds : List D) (d : D), sizeDs (ds ++ [d]) = sizeDs ds + sizeD d
  | [], d => by simp [sizeDs]
  | e :: ds, d => by
    have := sizeDs_snoc ds d
    simp only [List.cons_append, sizeDs, this]; omega
theorem depthDs_snoc : ∀ (ds : List D) (d : D), depthDs (ds ++ [d]) = max (depthDs ds) (depthD d)
  | [], d => by simp [depthDs]
  | e :: ds, d => by
    have := depthDs_snoc ds d
    simp only [List.cons_append, depthDs, this]; omega
theorem depthD_mem : ∀ {ds : List D} {d : D}, d ∈ ds → depthD d ≤ depthDs ds
  | [], _, h => by cases h
  | e :: ds, d, h => by
    rcases List.mem_cons.mp h with rfl | h
    · simp only [depthDs]; omega
    · have := depthD_mem h
      simp only [depthDs]; omega
theorem sizeD_tup (ds : List D) : sizeD (.tup ds) = 1 + sizeDs (ds.drop 1) := by
  cases ds with
  | nil => rfl
  | cons x t => simp only [sizeD, List.drop_succ_cons, List.drop_zero]
theorem depthD_tup (ds : List D) : depthD (.tup ds) = depthDs (ds.drop 1) + 1 := by
  cases ds with
  | nil => rfl
  | cons x t => simp only [depthD, List.drop_succ_cons, List.drop_zero]
theorem drop_mem {ds : List D} {d : D} (h : d ∈ ds.drop 1) : d ∈ ds := List.mem_of_mem_drop h
theorem tree_tup {ds : List D} (h : tree (.tup ds) = true) : ∀ d ∈ ds, tree d = true := trees_mem (by unfold tree at h; exact h)
/-! ### size -/
def sp_size (n : Nat) : DSp := fun ds M Q _ => ∃ d, ds = [d] ∧ tree d = true ∧ depthD d < n ∧ Q (.int (sizeD d)) M
theorem r_formula_size (n : Nat) : ∀ ds M Q E, sp_size (n + 1) ds M Q E → b_formula_size (sp_size n) (En Q) (startD 3 ds) M := by
  rintro ds M Q E ⟨d, rfl, ht, hn, h⟩
  cases d with
  | int i => exact ⟨fun _ => h, fun hc => absurd hc (by decide)⟩
  | str i => exact ⟨fun _ => h, fun hc => absurd hc (by decide)⟩
  | tup ds =>
    refine ⟨fun hc => absurd hc (by decide), fun _ => ?_⟩
    refine ⟨fun i E M' => M' = M ∧ ∃ x, E = [some (.tup ds), some (.int ((1 + sizeDs ((ds.drop 1).take i) : Nat) : Int)), x], ⟨rfl, none, rfl⟩, fun _ _ _ _ => trivial, ?_, ?_⟩
    · rintro i E M' d hd ⟨rfl, x, rfl⟩
      rw [cut1] at hd
      have hm := mem_at hd
      have h1 := depthD_mem hm
      rw [depthD_tup] at hn
      refine ⟨d, rfl, tree_tup ht d (drop_mem hm), by omega, rfl, some d, ?_⟩
      rw [take_snoc hd, sizeDs_snoc]
      refine congrArg (fun z => [some (D.tup ds), some (D.int z), some d]) ?_
      omega
    · rintro E M' ⟨rfl, x, rfl⟩
      refine qi h ?_
      rw [cut1, List.take_length, sizeD_tup]
  | _ => simp [tree] at ht
/-! ### depth -/
def sp_depth (n : Nat) : DSp := fun ds M Q _ => ∃ d, ds = [d] ∧ tree d = true ∧ depthD d < n ∧ Q (.int (depthD d)) M
theorem r_formula_depth (n : Nat) : ∀ ds M Q E, sp_depth (n + 1) ds M Q E → b_formula_depth (sp_depth n) (En Q) (startD 3 ds) M := by
  rintro ds M Q E ⟨d, rfl, ht, hn, h⟩
  cases d with
  | int i => exact ⟨fun _ => h, fun hc => absurd hc (by decide)⟩
  | str i => exact ⟨fun _ => h, fun hc => absurd hc (by decide)⟩
  | tup ds =>
    refine ⟨fun hc => absurd hc (by decide), fun _ => ?_⟩
    refine ⟨fun i E M' => M' = M ∧ ∃ x, E = [some (.tup ds), some (.int (depthDs ((ds.drop 1).take i) : Nat)), x], ⟨rfl, none, rfl⟩, fun _ _ _ _ => trivial, ?_, ?_⟩
    · rintro i E M' d hd ⟨rfl, x, rfl⟩
      rw [cut1] at hd
      have hm := mem_at hd
      have h1 := depthD_mem hm
      rw [depthD_tup] at hn
      refine ⟨d, rfl, tree_tup ht d (drop_mem hm), by omega, rfl, some d, ?_⟩
      rw [take_snoc hd, depthDs_snoc]
      refine congrArg (fun z => [some (D.tup ds), some (D.int z), some d]) ?_
      show (if _ then _ else _) = _
      split <;> omega
    · rintro E M' ⟨rfl, x, rfl⟩
      refine qi h ?_
      rw [cut1, List.take_length, depthD_tup]
      rfl
  | _ => simp [tree] at ht
/-! ### names -/
def lowers : Str := "abcdefghijklmnopqrstuvwxyz"
def digits : Str := "0123456789"
def low (c : Nat) : Bool := decide (c ∈ lowers.cps.toList)
def dig (c : Nat) : Bool := decide (c ∈ digits.cps.toList)
/-- a name -/
def nameL : List Nat → Bool
  | [] => false
  | c :: r => decide (r.length ≤ 5) && low c && r.all fun x => low x || dig x
def isNameS (s : Str) : Bool := nameL s.cps.toList
def sp_is_name : DSp := fun ds M Q _ => ∃ s : Str, ds = [.str s] ∧ s.length ≤ 1000 ∧ Q (.bl (isNameS s)) M
theorem str_len (s : Str) : s.cps.toList.length = s.length := by simp [Str.length]
theorem small_line {n : Nat} (h : n ≤ 1000) : n ≤ sizeLine := Nat.le_of_lt (small1000 h)
local macro_rules | `(tactic| walk_at "if") => `(tactic| first | (refine ⟨fun _ => ?_, fun hc => absurd hc (by decide)⟩) | (refine ⟨fun hc => absurd hc (by decide), fun _ => ?_⟩))
theorem sign_str (c : Nat) : (⟨#[c]⟩ : Str) = ⟨#[c]⟩ := rfl
theorem strD_at {s : Str} {i : Nat} {d : D} (h : (strD s)[i]? = some d) : ∃ c, s.cps.toList[i]? = some c ∧ d = .str ⟨#[c]⟩ := by
  unfold strD at h
  rw [List.getElem?_map] at h
  obtain ⟨c, h1, h2⟩ := Option.map_eq_some_iff.mp h
  exact ⟨c, h1, h2.symm⟩
theorem strD_len (s : Str) : (strD s).length = s.cps.toList.length := by unfold strD; rw [List.length_map]
theorem r_is_name : ∀ ds M Q E, sp_is_name ds M Q E → b_is_name (En Q) (startD 2 ds) M := by
  rintro ds M Q E ⟨s, rfl, hl, h⟩
  have e1 := str_len s
  have hl2 := small_line hl
  unfold isNameS at h
  refine ⟨hl2, fun h1 => ⟨fun h2 => ?_, fun h2 => ?_⟩, fun h1 => ?_⟩
  · walk_at "if"
    have h2 : ¬ ((s.length : Int) ≤ 6) := by simpa using h2
    refine qb h ?_
    cases e : s.cps.toList with
    | nil => rfl
    | cons c r =>
      rw [e, List.length_cons] at e1
      simp only [nameL]
      rw [decide_eq_false (by omega)]; rfl
  · have h1 := of_decide_eq_true h1
    have h2 : (s.length : Int) ≤ 6 := by simpa using h2
    cases e : s.cps.toList with
    | nil => rw [e, List.length_nil] at e1; omega
    | cons c r =>
      rw [e, List.length_cons] at e1
      have hr : decide (r.length ≤ 5) = true := decide_eq_true (by omega)
      refine ⟨hl2, c, by rw [e]; exact at0, c, rfl, fun h3 => ?_, fun h3 => ?_⟩
      · refine qb h ?_
        rw [e]
        have h3 : low c = false := by simpa [low, lowers] using h3
        simp only [nameL, h3, Bool.and_false, Bool.false_and]
      · have h3 : low c = true := by simpa [low, lowers] using h3
        refine ⟨fun i E M' => M' = M ∧ (∃ x, E = [some (.str s), x]) ∧ ((s.cps.toList.take i).all fun x => low x || dig x) = true, ⟨rfl, ⟨none, rfl⟩, rfl⟩, fun _ _ _ _ => trivial, ?_, ?_⟩
        · rintro i E M' d hd ⟨rfl, ⟨x, rfl⟩, ha⟩
          obtain ⟨c', hc, rfl⟩ := strD_at hd
          have st : low c' = true ∨ dig c' = true → ((s.cps.toList.take (i + 1)).all fun x => low x || dig x) = true := fun q => by
            rw [take_snoc hc, List.all_append, ha]
            simpa using q
          refine ⟨c', rfl, fun h4 => ⟨c', rfl, fun h5 => ?_, fun h5 => ⟨rfl, ⟨_, rfl⟩, st (.inr (by simpa [dig, digits] using h5))⟩⟩, fun h4 => ?_⟩
          · refine qb h ?_
            have h4 : low c' = false := by simpa [low, lowers] using h4
            have h5 : dig c' = false := by simpa [dig, digits] using h5
            rw [e] at hc ⊢
            simp only [nameL, hr, h3, Bool.true_and]
            cases i with
            | zero =>
              have : c = c' := by simpa using hc
              subst this
              rw [h3] at h4; cases h4
            | succ i =>
              have hm : c' ∈ r := mem_at (i := i) (by simpa using hc)
              exact (List.all_eq_false.mpr ⟨c', hm, by rw [h4, h5]; decide⟩).symm
          · walk_at "if"
            exact ⟨rfl, ⟨_, rfl⟩, st (.inl (by simpa [low, lowers] using h4))⟩
        · rintro E M' ⟨rfl, ⟨x, rfl⟩, ha⟩
          refine qb h ?_
          rw [strD_len, List.take_length] at ha
          rw [e] at ha ⊢
          rw [List.all_cons] at ha
          simp only [nameL, hr, h3, Bool.true_and]
          exact (Bool.and_eq_true_iff.mp ha).2.symm
  · walk_at "if"
    walk_at "if"
    have h1 := of_decide_eq_false h1
    refine qb h ?_
    cases e : s.cps.toList with
    | nil => rfl
    | cons c r => rw [e, List.length_cons] at e1; omega
end Rd

set_option Elab.async false
set_option linter.all false
set_option autoImplicit false
set_option maxRecDepth 100000
set_option maxHeartbeats 4000000
/-! readings: shapes, names -/
namespace Rd
open PySem PySem.Spec PyProof.Rows L2 DH Bd
local macro_rules | `(tactic| walk_at "if") => `(tactic| first | (refine ⟨fun _ => ?_, fun hc => absurd hc (by decide)⟩) | (refine ⟨fun hc => absurd hc (by decide), fun _ => ?_⟩))
/-! ### operations by name -/
def ops : List Op := [.not, .neg, .and, .or, .xor, .add, .sub, .mul, .shl, .shr, .eq, .lt, .slt, .pick]
def opOf (s : Str) : Option Op := ops.find? fun o => s == o.nm
theorem arity_map : kv_ARITY = ops.map fun o => (o.nm, D.int o.ar) := rfl
theorem lookup_map {α β κ : Type} [BEq κ] (f : α → κ) (g : α → β) (s : κ) : ∀ l : List α, (l.map fun a => (f a, g a)).lookup s = (l.find? fun a => s == f a).map g
  | [] => rfl
  | a :: r => by
    rw [List.map_cons, List.lookup_cons, List.find?_cons]
    cases s == f a with
    | true => rfl
    | false => exact lookup_map f g s r
theorem arity_look (s : Str) : kv_ARITY.lookup s = (opOf s).map fun o => D.int o.ar := by
  rw [arity_map, lookup_map]; rfl
theorem opOf_nm {s : Str} {o : Op} (h : opOf s = some o) : s = o.nm := by
  have := List.find?_some h
  exact eq_of_beq this
theorem opOf_of (o : Op) : opOf o.nm = some o := by cases o <;> decide +kernel
def isOpS (s : Str) : Bool := (opOf s).isSome
theorem arity_some (s : Str) : (kv_ARITY.lookup s).isSome = isOpS s := by
  rw [arity_look]; unfold isOpS; cases opOf s <;> rfl
def sp_is_value_name : DSp := fun ds M Q _ => ∃ s : Str, ds = [.str s] ∧ s.length ≤ 1000 ∧ Q (.bl (isNameS s && !isOpS s)) M
theorem r_is_value_name : ∀ ds M Q E, sp_is_value_name ds M Q E → b_is_value_name sp_is_name (En Q) (startD 1 ds) M := by
  rintro ds M Q E ⟨s, rfl, hl, h⟩
  refine ⟨s, rfl, hl, fun hb => ?_, fun hb => ?_⟩
  · refine qb h ?_
    show (if true = true then !(kv_ARITY.lookup s).isSome else _) = _
    rw [if_pos rfl, arity_some, hb, Bool.true_and]
  · exact qb h (by rw [hb, Bool.false_and])
/-! ### shape -/
def shapedD (w : Nat) (nms : List Str) : Nat → D → Bool
  | _, .int i => decide (0 ≤ i) && decide (i < (2 ^ w : Nat))
  | _, .str s => decide (s ∈ nms)
  | k + 1, .tup (.str s :: t) => (match opOf s with
    | some o => t.length == o.ar && t.all (shapedD w nms k)
    | none => false)
  | _, _ => false
theorem inD_strs (s : Str) (nms : List Str) : inD (.str s) (nms.map D.str) = decide (s ∈ nms) := by
  induction nms with
  | nil => rfl
  | cons x r ih =>
    unfold inD at ih ⊢
    rw [List.map_cons, List.any_cons, ih]
    show (x == s || _) = _
    rw [Bool.eq_iff_iff]
    simp only [Bool.or_eq_true, beq_iff_eq, decide_eq_true_eq, List.mem_cons]
    exact ⟨fun h => h.imp Eq.symm id, fun h => h.imp Eq.symm id⟩
theorem flat_strs (nms : List Str) : (nms.map D.str).all flatD = true := by
  rw [List.all_eq_true]
  intro d hd
  obtain ⟨s, _, rfl⟩ := List.mem_map.mp hd
  rfl
def sp_is_shaped (n : Nat) : DSp := fun ds M Q _ => ∃ (d nd : D) (w k : Nat) (nms : List Str), ds = [d, .int w, nd, .int k] ∧ SeqM M nd (nms.map D.str) ∧ tree d = true ∧ w ≤ 1000 ∧ k < n ∧ Q (.bl (shapedD w nms k d)) M
theorem r_is_shaped (n : Nat) : ∀ ds M Q E, sp_is_shaped (n + 1) ds M Q E → b_is_shaped sp_word_limit (sp_is_shaped n) (En Q) (startD 5 ds) M := by
  rintro ds M Q E ⟨d, nd, w, k, nms, rfl, hs, ht, hw, hk, h⟩
  cases d with
  | int i =>
    refine ⟨fun _ => ⟨fun h1 => ⟨w, rfl, hw, ?_⟩, fun h1 => ?_⟩, fun hc => absurd hc (by decide)⟩
    · refine qb h ?_
      simp only [shapedD]
      rw [h1, Bool.true_and]
    · refine qb h ?_
      simp only [shapedD]
      rw [h1, Bool.false_and]
  | str s =>
    walk_at "if"
    walk_at "if"
    rcases hs with rfl | ⟨a, rfl, ha⟩
    · exact ⟨rfl, flat_strs nms, qb h (by simp only [shapedD]; exact inD_strs s nms)⟩
    · exact .inl ⟨_, ha, rfl, flat_strs nms, qb h (by simp only [shapedD]; exact inD_strs s nms)⟩
  | tup ds =>
    walk_at "if"
    walk_at "if"
    refine ⟨fun h1 => ?_, fun h1 => ⟨fun h2 => ?_, fun h2 => ?_⟩⟩
    · walk_at "if"
      have h1 : (k : Int) = 0 := of_decide_eq_true h1
      obtain rfl : k = 0 := by omega
      refine qb h ?_
      cases ds with
      | nil => rfl
      | cons x t => cases x <;> rfl
    · walk_at "if"
      have h2 := of_decide_eq_true h2
      obtain rfl : ds = [] := by cases ds with
        | nil => rfl
        | cons x t => rw [List.length_cons] at h2; omega
      exact qb h (by cases k <;> rfl)
    · have h1 : ¬ (k : Int) = 0 := of_decide_eq_false h1
      obtain ⟨k, rfl⟩ : ∃ j, k = j + 1 := ⟨k - 1, by omega⟩
      have h2 := of_decide_eq_false h2
      cases ds with
      | nil => exact absurd rfl h2
      | cons x t =>
        refine ⟨x, at0, ?_⟩
        cases x with
        | int i =>
          walk_at "if"
          exact h
        | tup xs =>
          walk_at "if"
          exact h
        | str s =>
          walk_at "if"
          refine ⟨.str s, at0, fun h3 => ?_, fun h3 => ?_⟩
          · walk_at "if"
            refine qb h ?_
            have h3 : (!(kv_ARITY.lookup s).isSome) = true := h3
            rw [arity_some] at h3
            have : opOf s = none := by
              unfold isOpS at h3
              cases e : opOf s with
              | none => rfl
              | some o => rw [e] at h3; cases h3
            simp only [shapedD, this]
          · have h3 : (!(kv_ARITY.lookup s).isSome) = false := h3
            rw [arity_some] at h3
            obtain ⟨o, ho⟩ : ∃ o, opOf s = some o := by
              unfold isOpS at h3
              cases e : opOf s with
              | none => rw [e] at h3; cases h3
              | some o => exact ⟨o, rfl⟩
            refine ⟨.str s, at0, .int o.ar, by rw [arity_look, ho]; rfl, fun h4 => ?_, fun h4 => ?_⟩
            · refine qb h ?_
              have h4 : ((t.length + 1 : Nat) : Int) ≠ 1 + (o.ar : Int) := by simpa using h4
              simp only [shapedD, ho]
              rw [show (t.length == o.ar) = false from by rw [beq_eq_false_iff_ne]; intro e; apply h4; omega]
              rfl
            · have h4 : ((t.length + 1 : Nat) : Int) = 1 + (o.ar : Int) := by simpa using h4
              have h5 : (t.length == o.ar) = true := by rw [beq_iff_eq]; omega
              have htr := tree_tup ht
              refine ⟨fun i E M' => M' = M ∧ (∃ x, E = [some (.tup (.str s :: t)), some (.int w), some nd, some (.int ((k + 1 : Nat) : Int)), x]) ∧ (t.take i).all (shapedD w nms k) = true, ⟨rfl, ⟨none, rfl⟩, rfl⟩, fun _ _ _ _ => trivial, ?_, ?_⟩
              · rintro i E M' d hd ⟨rfl, ⟨x, rfl⟩, ha⟩
                rw [cut1] at hd
                have hd : t[i]? = some d := hd
                have hm := mem_at hd
                refine ⟨d, nd, w, k, nms, ?_, hs, htr d (List.mem_cons_of_mem _ hm), hw, by omega, fun h6 => ?_, fun h6 => ?_⟩
                · show [d, D.int w, nd, D.int (((k + 1 : Nat) : Int) - 1)] = _
                  rw [show (((k + 1 : Nat) : Int) - 1) = (k : Int) by omega]
                · refine qb h ?_
                  have h6 : shapedD w nms k d = false := by simpa using h6
                  simp only [shapedD, ho, h5, Bool.true_and]
                  exact (List.all_eq_false.mpr ⟨d, hm, by rw [h6]; decide⟩).symm
                · have h6 : shapedD w nms k d = true := by simpa using h6
                  refine ⟨rfl, ⟨_, rfl⟩, ?_⟩
                  rw [take_snoc hd, List.all_append, ha, List.all_cons, h6]
                  rfl
              · rintro E M' ⟨rfl, ⟨x, rfl⟩, ha⟩
                refine qb h ?_
                rw [cut1] at ha
                have ha : (t.take t.length).all (shapedD w nms k) = true := ha
                rw [List.take_length] at ha
                simp only [shapedD, ho, h5, ha, Bool.true_and]
        | _ => have := tree_tup ht _ List.mem_cons_self; simp [tree] at this
  | _ => simp [tree] at ht
end Rd

set_option Elab.async false
set_option linter.all false
set_option autoImplicit false
set_option maxRecDepth 100000
set_option maxHeartbeats 4000000
/-! readings: formulas whole, names, values, substitution -/
namespace Rd
open PySem PySem.Spec PyProof.Rows L2 DH Bd
local macro_rules | `(tactic| walk_at "if") => `(tactic| first | (refine ⟨fun _ => ?_, fun hc => absurd hc (by decide)⟩) | (refine ⟨fun hc => absurd hc (by decide), fun _ => ?_⟩))
/-! ### what stood stands -/
def Ext (M M' : Mm) : Prop := ∀ a o, M a = some o → M' a = some o
theorem Ext.refl (M : Mm) : Ext M M := fun _ _ h => h
theorem Ext.trans {M M1 M2 : Mm} (a : Ext M M1) (b : Ext M1 M2) : Ext M M2 := fun x o h => b x o (a x o h)
theorem Ext.new {M : Mm} {p : Addr} {o : MO} (h : M p = none) : Ext M (updM M p o) := fun a u e => by
  rw [updM_ne (fun z => by subst z; rw [h] at e; cases e)]; exact e
/-- a thing that the first heap does not know is changed -/
theorem Ext.mut {M M' : Mm} {p : Addr} {o : MO} (e : Ext M M') (h : M p = none) : Ext M (updM M' p o) := fun a u q => by
  rw [updM_ne (fun z => by subst z; rw [h] at q; cases q)]; exact e a u q
theorem Ext.back {M M' : Mm} {p : Addr} (e : Ext M M') (h : M' p = none) : M p = none := by
  cases q : M p with
  | none => rfl
  | some o => rw [e p o q] at h; cases h
theorem Ext.ne {M : Mm} {a p : Addr} {o : MO} (h : M a = some o) (hp : M p = none) : a ≠ p := fun z => by subst z; rw [hp] at h; cases h
theorem SeqM.ext {M M' : Mm} {d : D} {ds : List D} (s : SeqM M d ds) (e : Ext M M') : SeqM M' d ds := by
  rcases s with rfl | ⟨a, rfl, h⟩
  · exact .inl rfl
  · exact .inr ⟨a, rfl, e _ _ h⟩
/-! ### formulas whole -/
theorem depths_of {p : D → Bool} {k : Nat} (hp : ∀ d, p d = true → depthD d ≤ k) : ∀ t : List D, t.all p = true → depthDs t ≤ k
  | [], _ => by simp [depthDs]
  | x :: r, h => by
    rw [List.all_cons, Bool.and_eq_true] at h
    have := hp x h.1
    have := depths_of hp r h.2
    simp only [depthDs]; omega
theorem sizeDs_take : ∀ (l : List D) (i : Nat), sizeDs (l.take i) ≤ sizeDs l
  | [], i => by simp
  | x :: r, 0 => by simp [sizeDs]
  | x :: r, i + 1 => by
    have := sizeDs_take r i
    simp only [List.take_succ_cons, sizeDs]; omega
theorem sizeD_mem : ∀ {l : List D} {d : D}, d ∈ l → sizeD d ≤ sizeDs l
  | [], _, h => by cases h
  | x :: r, d, h => by
    rcases List.mem_cons.mp h with rfl | h
    · simp only [sizeDs]; omega
    · have := sizeD_mem h
      simp only [sizeDs]; omega
theorem shaped_depth {w : Nat} {nms : List Str} : ∀ {k : Nat} {d : D}, shapedD w nms k d = true → depthD d ≤ k
  | 0, d, h => by cases d <;> first | (simp [shapedD] at h; done) | (simp [depthD]; done)
  | k + 1, .tup (.str s :: t), h => by
    simp only [shapedD] at h
    split at h
    · have h := (Bool.and_eq_true_iff.mp h).2
      have : depthDs t ≤ k := depths_of (fun d q => shaped_depth q) t h
      simp only [depthD]; omega
    · cases h
  | k + 1, .tup [], h => by simp [shapedD] at h
  | k + 1, .tup (.int _ :: _), h => by simp [shapedD] at h
  | k + 1, .tup (.tup _ :: _), h => by simp [shapedD] at h
  | k + 1, .tup (.non :: _), h => by simp [shapedD] at h
  | k + 1, .tup (.bl _ :: _), h => by simp [shapedD] at h
  | k + 1, .tup (.ref _ :: _), h => by simp [shapedD] at h
  | k + 1, .tup (.ty _ :: _), h => by simp [shapedD] at h
  | k + 1, .tup (.kd _ :: _), h => by simp [shapedD] at h
  | k + 1, .tup (.fl _ :: _), h => by simp [shapedD] at h
  | k + 1, .int _, _ => by simp [depthD]
  | k + 1, .str _, _ => by simp [depthD]
  | k + 1, .non, _ => by simp [depthD]
  | k + 1, .bl _, _ => by simp [depthD]
  | k + 1, .ref _, _ => by simp [depthD]
  | k + 1, .ty _, _ => by simp [depthD]
  | k + 1, .kd _, _ => by simp [depthD]
  | k + 1, .fl _, _ => by simp [depthD]
def formD (w : Nat) (nms : List Str) (most : Int) (d : D) : Bool := shapedD w nms 6 d && decide ((sizeD d : Int) ≤ most)
def sp_is_formula : DSp := fun ds M Q _ => ∃ (d nd : D) (w : Nat) (most : Int) (nms : List Str), ds = [d, .int w, nd, .int most] ∧ SeqM M nd (nms.map D.str) ∧ tree d = true ∧ w ≤ 1000 ∧ Q (.bl (formD w nms most d)) M
theorem r_is_formula : ∀ ds M Q E, sp_is_formula ds M Q E → b_is_formula (sp_is_shaped 7) (sp_size 7) (En Q) (startD 4 ds) M := by
  rintro ds M Q E ⟨d, nd, w, most, nms, rfl, hs, ht, hw, h⟩
  unfold formD at h
  refine ⟨d, nd, w, 6, nms, rfl, hs, ht, hw, by decide, fun hb => ?_, fun hb => ?_⟩
  · have hd := shaped_depth hb
    refine ⟨d, rfl, ht, by omega, qb h ?_⟩
    rw [hb, Bool.true_and]
  · exact qb h (by rw [hb, Bool.false_and])
/-! ### names -/
def addN (f l : List Str) : List Str := l.foldl (fun f n => if n ∈ f then f else f ++ [n]) f
mutual
def namesD : D → List Str
  | .str s => [s]
  | .tup (_ :: t) => namesDs [] t
  | _ => []
def namesDs (f : List Str) : List D → List Str
  | [] => f
  | d :: t => namesDs (addN f (namesD d)) t
end
theorem namesDs_snoc (d : D) : ∀ (t : List D) (f : List Str), namesDs f (t ++ [d]) = addN (namesDs f t) (namesD d)
  | [], f => by simp [namesDs]
  | x :: t, f => by
    simp only [List.cons_append, namesDs]
    exact namesDs_snoc d t _
theorem addN_snoc (f l : List Str) (n : Str) : addN f (l ++ [n]) = if n ∈ addN f l then addN f l else addN f l ++ [n] := by
  unfold addN
  rw [List.foldl_append]; rfl
theorem addN_len (f l : List Str) : (addN f l).length ≤ f.length + l.length := by
  induction l generalizing f with
  | nil => exact Nat.le_refl _
  | cons x r ih =>
    show (addN (if x ∈ f then f else f ++ [x]) r).length ≤ _
    have := ih (if x ∈ f then f else f ++ [x])
    split at this
    · rename_i q; rw [if_pos q] at *; rw [List.length_cons]; omega
    · rename_i q; rw [if_neg q] at *; rw [List.length_append] at this; rw [List.length_cons]; simp at this; omega
mutual
theorem names_size : ∀ d : D, (namesD d).length ≤ sizeD d
  | .str s => by simp [namesD, sizeD]
  | .tup [] => by simp [namesD, sizeD]
  | .tup (x :: t) => by
    have := names_sizes t []
    simp only [namesD, sizeD]
    simp at this; omega
  | .int _ => by simp [namesD, sizeD]
  | .non => by simp [namesD, sizeD]
  | .bl _ => by simp [namesD, sizeD]
  | .ref _ => by simp [namesD, sizeD]
  | .ty _ => by simp [namesD, sizeD]
  | .kd _ => by simp [namesD, sizeD]
  | .fl _ => by simp [namesD, sizeD]
theorem names_sizes : ∀ (t : List D) (f : List Str), (namesDs f t).length ≤ f.length + sizeDs t
  | [], f => by simp [namesDs, sizeDs]
  | d :: t, f => by
    have h1 := names_size d
    have h2 := addN_len f (namesD d)
    have h3 := names_sizes t (addN f (namesD d))
    simp only [namesDs, sizeDs]; omega
end
/-- a new list -/
def RetL (M : Mm) (Q : DQ) (ds : List D) : Prop := ∀ p M', M p = none → Ext M M' → M' p = some (.lst ds) → Q (.ref p) M'
def sp_names (n : Nat) : DSp := fun ds M Q _ => ∃ d, ds = [d] ∧ tree d = true ∧ depthD d < n ∧ sizeD d ≤ 100000 ∧ RetL M Q ((namesD d).map D.str)
theorem r_formula_names (n : Nat) : ∀ ds M Q E, sp_names (n + 1) ds M Q E → b_formula_names (sp_names n) (En Q) (startD 4 ds) M := by
  rintro ds M Q E ⟨d, rfl, ht, hn, hz, h⟩
  cases d with
  | int i =>
    walk_at "if"
    exact ⟨Nat.zero_le _, fun p hp => h p _ hp (Ext.new hp) updM_same⟩
  | str s =>
    walk_at "if"
    walk_at "if"
    exact ⟨(by show 1 ≤ sizeLine; decide), fun p hp => h p _ hp (Ext.new hp) updM_same⟩
  | tup ds =>
    walk_at "if"
    walk_at "if"
    refine ⟨Nat.zero_le _, fun p hp => ?_⟩
    have hz2 : ∀ i, (namesDs [] ((ds.drop 1).take i)).length ≤ 100000 := fun i => by
      have h1 := names_sizes ((ds.drop 1).take i) []
      rw [sizeD_tup] at hz
      have := sizeDs_take (ds.drop 1) i
      rw [List.length_nil] at h1; omega
    refine ⟨fun i E M' => Ext M M' ∧ M' p = some (.lst ((namesDs [] ((ds.drop 1).take i)).map D.str)) ∧ ∃ x y, E = [some (.tup ds), some (.ref p), x, y], ⟨Ext.new hp, updM_same, none, none, rfl⟩, fun _ _ _ _ => trivial, ?_, ?_⟩
    · rintro i E M' d hd ⟨hx, hl, x, y, rfl⟩
      rw [cut1] at hd
      have hm := mem_at hd
      have h1 := depthD_mem hm
      rw [depthD_tup] at hn
      have hsd : sizeD d ≤ 100000 := by
        rw [sizeD_tup] at hz
        have := sizeD_mem hm
        omega
      refine ⟨d, rfl, tree_tup ht d (drop_mem hm), by omega, hsd, fun q M1 hq e1 hl1 => ?_⟩
      have hp1 : M1 p = _ := e1 _ _ hl
      have hqp : q ≠ p := fun z => by subst z; rw [hq] at hl; cases hl
      refine ⟨_, hl1, fun j E M2 => Ext M M2 ∧ M2 q = some (.lst ((namesD d).map D.str)) ∧ M2 p = some (.lst ((addN (namesDs [] ((ds.drop 1).take i)) ((namesD d).take j)).map D.str)) ∧ ∃ y, E = [some (.tup ds), some (.ref p), some d, y], ⟨hx.trans e1, hl1, hp1, y, rfl⟩, fun j E M2 ⟨_, h2, _⟩ => h2, ?_, ?_⟩
      · rintro j E M2 e he ⟨hx2, hq2, hp2, y, rfl⟩
        rw [List.getElem?_map] at he
        obtain ⟨nme, hn1, rfl⟩ := Option.map_eq_some_iff.mp he
        have hlen : (addN (namesDs [] ((ds.drop 1).take i)) ((namesD d).take j)).length ≤ 200000 := by
          have a1 := addN_len (namesDs [] ((ds.drop 1).take i)) ((namesD d).take j)
          have a2 := hz2 i
          have a3 := names_size d
          have a4 : ((namesD d).take j).length ≤ (namesD d).length := by rw [List.length_take]; omega
          omega
        refine .inl ⟨_, hp2, rfl, flat_strs _, fun hb => ?_, fun hb => ?_⟩
        · have hb : ¬ nme ∈ addN (namesDs [] ((ds.drop 1).take i)) ((namesD d).take j) := by
            have hb : (!inD (.str nme) _) = true := hb
            rw [inD_strs] at hb
            simpa using hb
          refine ⟨⟨_, hp2⟩, _, hp2, ?_, hx2.mut hp, ?_, ?_, y.elim (some (.str nme)) (fun _ => some (.str nme)), ?_⟩
          · rw [List.length_map]
            exact Nat.lt_of_le_of_lt hlen (by decide)
          · rw [updM_ne hqp]; exact hq2
          · rw [updM_same, take_snoc hn1, addN_snoc, if_neg hb, List.map_append]; rfl
          · cases y <;> rfl
        · have hb : nme ∈ addN (namesDs [] ((ds.drop 1).take i)) ((namesD d).take j) := by
            have hb : (!inD (.str nme) _) = false := hb
            rw [inD_strs] at hb
            simpa using hb
          refine ⟨hx2, hq2, ?_, some (.str nme), rfl⟩
          rw [take_snoc hn1, addN_snoc, if_pos hb]; exact hp2
      · rintro E M2 ⟨hx2, hq2, hp2, y, rfl⟩
        refine ⟨hx2, ?_, some d, y, rfl⟩
        rw [List.length_map, List.take_length] at hp2
        rw [take_snoc hd, namesDs_snoc]
        exact hp2
    · rintro E M' ⟨hx, hl, x, y, rfl⟩
      refine h p M' hp hx ?_
      rw [cut1, List.take_length] at hl
      rw [hl]
      cases ds with
      | nil => rfl
      | cons z t => rfl
  | _ => simp [tree] at ht
end Rd

set_option Elab.async false
set_option linter.all false
set_option autoImplicit false
set_option maxRecDepth 100000
set_option maxHeartbeats 4000000
/-! readings: values, substitution -/
namespace Rd
open PySem PySem.Spec PyProof.Rows L2 DH Bd
local macro_rules | `(tactic| walk_at "if") => `(tactic| first | (refine ⟨fun _ => ?_, fun hc => absurd hc (by decide)⟩) | (refine ⟨fun hc => absurd hc (by decide), fun _ => ?_⟩))
/-! ### values -/
mutual
def evD (w : Nat) (ρ : Str → Nat) : D → Nat
  | .int i => i.toNat
  | .str s => ρ s
  | .tup (.str s :: t) => (match opOf s with
    | some o => o.v w (evDs w ρ t)
    | none => 0)
  | _ => 0
def evDs (w : Nat) (ρ : Str → Nat) : List D → List Nat
  | [] => []
  | d :: t => evD w ρ d :: evDs w ρ t
end
mutual
def wfD (w : Nat) (nms : List Str) : D → Bool
  | .int i => decide (0 ≤ i) && decide (i < (2 ^ w : Nat))
  | .str s => decide (s ∈ nms)
  | .tup (.str s :: t) => (match opOf s with
    | some o => t.length == o.ar && wfDs w nms t
    | none => false)
  | _ => false
def wfDs (w : Nat) (nms : List Str) : List D → Bool
  | [] => true
  | d :: t => wfD w nms d && wfDs w nms t
end
theorem wfDs_mem {w : Nat} {nms : List Str} : ∀ {t : List D}, wfDs w nms t = true → ∀ d ∈ t, wfD w nms d = true
  | [], _, _, h => by cases h
  | e :: t, ht, d, h => by
    unfold wfDs at ht
    obtain ⟨h1, h2⟩ := Bool.and_eq_true_iff.mp ht
    rcases List.mem_cons.mp h with rfl | h
    · exact h1
    · exact wfDs_mem h2 d h
theorem evDs_map (w : Nat) (ρ : Str → Nat) : ∀ t : List D, evDs w ρ t = t.map (evD w ρ)
  | [] => rfl
  | d :: t => by simp only [evDs, List.map_cons, evDs_map w ρ t]
theorem op_inv {w : Nat} {nms : List Str} {ds : List D} (h : wfD w nms (.tup ds) = true) : ∃ (o : Op) (t : List D), ds = .str o.nm :: t ∧ t.length = o.ar ∧ (∀ d ∈ t, wfD w nms d = true) ∧ ∀ ρ, evD w ρ (.tup ds) = o.v w (t.map (evD w ρ)) := by
  match ds, h with
  | .str s :: t, h =>
    simp only [wfD] at h
    cases e : opOf s with
    | none => rw [e] at h; cases h
    | some o =>
      rw [e] at h
      obtain ⟨h1, h2⟩ := Bool.and_eq_true_iff.mp h
      have es := opOf_nm e
      subst es
      refine ⟨o, t, rfl, by simpa using h1, wfDs_mem h2, fun ρ => ?_⟩
      simp only [evD, e, evDs_map]
  | [], h => simp [wfD] at h
  | .int _ :: _, h => simp [wfD] at h
  | .tup _ :: _, h => simp [wfD] at h
  | .non :: _, h => simp [wfD] at h
  | .bl _ :: _, h => simp [wfD] at h
  | .ref _ :: _, h => simp [wfD] at h
  | .ty _ :: _, h => simp [wfD] at h
  | .kd _ :: _, h => simp [wfD] at h
  | .fl _ :: _, h => simp [wfD] at h
theorem opv_lt {w : Nat} (hw : 1 ≤ w) (o : Op) (xs : List Nat) (hl : xs.length = o.ar) (hx : ∀ x ∈ xs, x < 2 ^ w) : o.v w xs < 2 ^ w := by
  have hp : 0 < 2 ^ w := Nat.two_pow_pos w
  have h2 : 2 ≤ 2 ^ w := by
    have := Nat.pow_le_pow_right (n := 2) (by decide) hw
    simpa using this
  have bl : ∀ b, b2n b < 2 ^ w := fun b => by cases b; (show 0 < 2 ^ w; omega); (show 1 < 2 ^ w; omega)
  cases o
  case not => match xs, hl with
    | [x], _ => show 2 ^ w - 1 - x < 2 ^ w; omega
  case neg => match xs, hl with
    | [x], _ => exact Nat.mod_lt _ hp
  case and => match xs, hl, hx with
    | [x, y], _, hx => exact Nat.lt_of_le_of_lt Nat.and_le_left (hx x (by simp))
  case or => match xs, hl, hx with
    | [x, y], _, hx => exact Nat.or_lt_two_pow (hx x (by simp)) (hx y (by simp))
  case xor => match xs, hl, hx with
    | [x, y], _, hx => exact Nat.xor_lt_two_pow (hx x (by simp)) (hx y (by simp))
  case add => match xs, hl with
    | [x, y], _ => exact Nat.mod_lt _ hp
  case sub => match xs, hl with
    | [x, y], _ => exact Nat.mod_lt _ hp
  case mul => match xs, hl with
    | [x, y], _ => exact Nat.mod_lt _ hp
  case shl => match xs, hl with
    | [x, y], _ => exact Nat.mod_lt _ hp
  case shr => match xs, hl, hx with
    | [x, y], _, hx => exact Nat.lt_of_le_of_lt (Nat.div_le_self _ _) (hx x (by simp))
  case eq => match xs, hl with
    | [x, y], _ => exact bl _
  case lt => match xs, hl with
    | [x, y], _ => exact bl _
  case slt => match xs, hl with
    | [x, y], _ => exact bl _
  case pick => match xs, hl, hx with
    | [x, y, z], _, hx =>
      show (if x = 0 then z else y) < 2 ^ w
      split
      · exact hx z (by simp)
      · exact hx y (by simp)
mutual
theorem ev_lt {w : Nat} (hw : 1 ≤ w) {nms : List Str} {ρ : Str → Nat} (hρ : ∀ s ∈ nms, ρ s < 2 ^ w) : ∀ d : D, wfD w nms d = true → evD w ρ d < 2 ^ w
  | .int i, h => by
    simp only [wfD, Bool.and_eq_true, decide_eq_true_eq] at h
    simp only [evD]; omega
  | .str s, h => by
    simp only [wfD, decide_eq_true_eq] at h
    simp only [evD]; exact hρ s h
  | .tup (.str s :: t), h => by
    simp only [wfD] at h
    simp only [evD]
    cases e : opOf s with
    | none => rw [e] at h; cases h
    | some o =>
      rw [e] at h
      obtain ⟨h1, h2⟩ := Bool.and_eq_true_iff.mp h
      have h3 := evs_lt hw hρ t h2
      refine opv_lt hw o _ ?_ h3
      rw [evDs_map, List.length_map]
      simpa using h1
  | .tup [], h => by simp [wfD] at h
  | .tup (.int _ :: _), h => by simp [wfD] at h
  | .tup (.tup _ :: _), h => by simp [wfD] at h
  | .tup (.non :: _), h => by simp [wfD] at h
  | .tup (.bl _ :: _), h => by simp [wfD] at h
  | .tup (.ref _ :: _), h => by simp [wfD] at h
  | .tup (.ty _ :: _), h => by simp [wfD] at h
  | .tup (.kd _ :: _), h => by simp [wfD] at h
  | .tup (.fl _ :: _), h => by simp [wfD] at h
  | .non, h => by simp [wfD] at h
  | .bl _, h => by simp [wfD] at h
  | .ref _, h => by simp [wfD] at h
  | .ty _, h => by simp [wfD] at h
  | .kd _, h => by simp [wfD] at h
  | .fl _, h => by simp [wfD] at h
theorem evs_lt {w : Nat} (hw : 1 ≤ w) {nms : List Str} {ρ : Str → Nat} (hρ : ∀ s ∈ nms, ρ s < 2 ^ w) : ∀ t : List D, wfDs w nms t = true → ∀ x ∈ evDs w ρ t, x < 2 ^ w
  | [], _, x, hx => by simp [evDs] at hx
  | d :: t, h, x, hx => by
    simp only [wfDs, Bool.and_eq_true] at h
    simp only [evDs, List.mem_cons] at hx
    rcases hx with rfl | hx
    · exact ev_lt hw hρ d h.1
    · exact evs_lt hw hρ t h.2 x hx
end
/-- a dict that gives the names words -/
def EnvM (M : Mm) (a : Addr) (w : Nat) (ρ : Str → Nat) (nms : List Str) : Prop := ∃ kvs, M a = some (.dk kvs) ∧ ∀ s ∈ nms, valD kvs (.inr s) = some (.int (ρ s)) ∧ ρ s < 2 ^ w
theorem EnvM.ext {M M' : Mm} {a : Addr} {w : Nat} {ρ : Str → Nat} {nms : List Str} (h : EnvM M a w ρ nms) (e : Ext M M') : EnvM M' a w ρ nms :=
  let ⟨kvs, h1, h2⟩ := h; ⟨kvs, e _ _ h1, h2⟩
/-- a value, whatever is made on the way -/
def RetV (M : Mm) (Q : DQ) (d : D) : Prop := ∀ M', Ext M M' → Q d M'
def sp_value (n : Nat) : DSp := fun ds M Q _ => ∃ (d : D) (w : Nat) (a : Addr) (ρ : Str → Nat) (nms : List Str), ds = [d, .int w, .ref a] ∧ 1 ≤ w ∧ w ≤ 4 ∧ wfD w nms d = true ∧ depthD d < n ∧ EnvM M a w ρ nms ∧ RetV M Q (.int (evD w ρ d))
theorem wds_map {w : Nat} {ρ : Str → Nat} (t : List D) : wds (t.map (evD w ρ)) = t.map fun d => D.int (evD w ρ d : Nat) := by
  unfold wds; rw [List.map_map]; rfl
theorem r_formula_value (n : Nat) : ∀ ds M Q E, sp_value (n + 1) ds M Q E → b_formula_value (sp_value n) sp_operate (En Q) (startD 5 ds) M := by
  rintro ds M Q E ⟨d, w, a, ρ, nms, rfl, hw, h4, hd, hn, he, h⟩
  cases d with
  | int i =>
    walk_at "if"
    refine qi (h M (Ext.refl M)) ?_
    simp only [wfD, Bool.and_eq_true, decide_eq_true_eq] at hd
    simp only [evD]; omega
  | str s =>
    walk_at "if"
    walk_at "if"
    obtain ⟨kvs, h1, h2⟩ := he
    simp only [wfD, decide_eq_true_eq] at hd
    refine .inr ⟨kvs, .inr s, _, h1, rfl, (h2 s hd).1, ?_⟩
    refine qi (h M (Ext.refl M)) ?_
    simp only [evD]
  | tup ds =>
    obtain ⟨o, t, rfl, hl, ht, hev⟩ := op_inv hd
    walk_at "if"
    walk_at "if"
    refine ⟨Nat.zero_le _, fun p hp => ?_⟩
    refine ⟨fun i E M' => Ext M M' ∧ M' p = some (.lst ((t.take i).map fun d => D.int (evD w ρ d : Nat))) ∧ ∃ x, E = [some (.tup (.str o.nm :: t)), some (.int w), some (.ref a), some (.ref p), x], ⟨Ext.new hp, updM_same, none, rfl⟩, fun _ _ _ _ => trivial, ?_, ?_⟩
    · rintro i E M' d hd ⟨hx, hl2, x, rfl⟩
      rw [cut1] at hd
      have hd : t[i]? = some d := hd
      have hm := mem_at hd
      have h1 := depthD_mem hm
      rw [depthD_tup] at hn
      have hn : depthDs t + 1 < n + 1 := hn
      refine ⟨⟨_, hl2⟩, d, w, a, ρ, nms, rfl, hw, h4, ht d hm, by omega, he.ext hx, fun M1 e1 => ?_⟩
      have hlt := lt_at hd
      have h3 : o.ar ≤ 3 := by cases o <;> decide
      refine ⟨_, e1 _ _ hl2, ?_, (hx.trans e1).mut hp, ?_, some d, rfl⟩
      · rw [List.length_map, List.length_take]
        exact Nat.lt_of_le_of_lt (show min i t.length ≤ 3 by omega) (by decide)
      · rw [updM_same, take_snoc hd, List.map_append]; rfl
    · rintro E M' ⟨hx, hl2, x, rfl⟩
      rw [cut1] at hl2
      have hl2 : M' p = some (.lst ((t.take t.length).map fun d => D.int (evD w ρ d : Nat))) := hl2
      rw [List.take_length] at hl2
      refine ⟨.str o.nm, at0, o, w, t.map (evD w ρ), .ref p, rfl, .inr ⟨p, rfl, ?_⟩, by rw [List.length_map]; exact hl, hw, h4, ?_, ?_⟩
      · rw [wds_map]; exact hl2
      · intro x hx
        obtain ⟨d, hd, rfl⟩ := List.mem_map.mp hx
        obtain ⟨kvs, h1, h2⟩ := he
        exact ev_lt hw (fun s hs => (h2 s hs).2) d (ht d hd)
      · refine qi (h M' hx) ?_
        rw [hev]
  | _ => simp [wfD] at hd
/-! ### substitution -/
mutual
def putF (ρ : Str → Option D) : D → D
  | .str s => (ρ s).getD (.str s)
  | .tup (x :: t) => .tup (x :: putFs ρ t)
  | d => d
def putFs (ρ : Str → Option D) : List D → List D
  | [] => []
  | d :: t => putF ρ d :: putFs ρ t
end
theorem putFs_map (ρ : Str → Option D) : ∀ t : List D, putFs ρ t = t.map (putF ρ)
  | [] => rfl
  | d :: t => by simp only [putFs, List.map_cons, putFs_map ρ t]
mutual
def fullD : D → Bool
  | .int _ | .str _ => true
  | .tup (_ :: t) => fullDs t
  | _ => false
def fullDs : List D → Bool
  | [] => true
  | d :: t => fullD d && fullDs t
end
theorem fullDs_mem : ∀ {t : List D}, fullDs t = true → ∀ d ∈ t, fullD d = true
  | [], _, _, h => by cases h
  | e :: t, ht, d, h => by
    unfold fullDs at ht
    obtain ⟨h1, h2⟩ := Bool.and_eq_true_iff.mp ht
    rcases List.mem_cons.mp h with rfl | h
    · exact h1
    · exact fullDs_mem h2 d h
def sp_put_in (n : Nat) : DSp := fun ds M Q _ => ∃ (d : D) (a : Addr) (kvs : List (Key × D)), ds = [d, .ref a] ∧ fullD d = true ∧ depthD d < n ∧ sizeD d ≤ 100000 ∧ M a = some (.dk kvs) ∧ RetV M Q (putF (fun s => valD kvs (.inr s)) d)
theorem len_size : ∀ t : List D, t.length ≤ sizeDs t
  | [] => Nat.le_refl _
  | d :: t => by
    have := len_size t
    have : 1 ≤ sizeD d := by
      cases d with
      | tup ds => rw [sizeD_tup]; omega
      | _ => simp [sizeD]
    simp only [sizeDs, List.length_cons]; omega
theorem r_put_in (n : Nat) : ∀ ds M Q E, sp_put_in (n + 1) ds M Q E → b_put_in (sp_put_in n) (En Q) (startD 4 ds) M := by
  rintro ds M Q E ⟨d, a, kvs, rfl, hf, hn, hz, ha, h⟩
  cases d with
  | int i =>
    walk_at "if"
    exact h M (Ext.refl M)
  | str s =>
    walk_at "if"
    walk_at "if"
    refine ⟨⟨kvs, ha⟩, kvs, .inr s, ha, rfl, ?_⟩
    refine qd (h M (Ext.refl M)) ?_
    simp only [putF]
  | tup ds =>
    match ds, hf with
    | x :: t, hf =>
      have hf : fullDs t = true := by simpa [fullD] using hf
      walk_at "if"
      walk_at "if"
      have hsz : t.length ≤ 100000 := by
        have := len_size t
        simp only [sizeD] at hz; omega
      refine ⟨x, at0, (by show 1 ≤ sizeLine; decide), fun p hp => ?_⟩
      refine ⟨fun i E M' => Ext M M' ∧ M' p = some (.lst (x :: (t.take i).map (putF fun s => valD kvs (.inr s)))) ∧ ∃ y, E = [some (.tup (x :: t)), some (.ref a), some (.ref p), y], ⟨Ext.new hp, updM_same, none, rfl⟩, fun _ _ _ _ => trivial, ?_, ?_⟩
      · rintro i E M' d hd ⟨hx, hl2, y, rfl⟩
        rw [cut1] at hd
        have hd : t[i]? = some d := hd
        have hm := mem_at hd
        have h1 := depthD_mem hm
        have h2 := sizeD_mem hm
        rw [depthD_tup] at hn
        rw [sizeD_tup] at hz
        have hn : depthDs t + 1 < n + 1 := hn
        have hz : 1 + sizeDs t ≤ 100000 := hz
        refine ⟨⟨_, hl2⟩, d, a, kvs, rfl, fullDs_mem hf d hm, by omega, by omega, hx _ _ ha, fun M1 e1 => ?_⟩
        refine ⟨_, e1 _ _ hl2, ?_, (hx.trans e1).mut hp, ?_, some d, rfl⟩
        · rw [List.length_cons, List.length_map, List.length_take]
          exact Nat.lt_of_le_of_lt (show min i t.length + 1 ≤ 100001 by omega) (by decide)
        · rw [updM_same, take_snoc hd, List.map_append]; rfl
      · rintro E M' ⟨hx, hl2, y, rfl⟩
        rw [cut1] at hl2
        have hl2 : M' p = some (.lst (x :: (t.take t.length).map (putF fun s => valD kvs (.inr s)))) := hl2
        rw [List.take_length] at hl2
        refine ⟨_, hl2, ?_⟩
        refine qd (h M' hx) ?_
        simp only [putF, putFs_map]
    | [], hf => simp [fullD] at hf
  | _ => simp [fullD] at hf
end Rd

set_option Elab.async false
set_option linter.all false
set_option autoImplicit false
set_option maxRecDepth 100000
set_option maxHeartbeats 4000000
/-! readings: the draw -/
namespace Rd
open PySem PySem.Spec PyProof.Rows L2 DH Bd
local macro_rules | `(tactic| walk_at "if") => `(tactic| first | (refine ⟨fun _ => ?_, fun hc => absurd hc (by decide)⟩) | (refine ⟨fun hc => absurd hc (by decide), fun _ => ?_⟩))
theorem tolist {n : Nat} (h : n ≤ 10000000) : n < sizeLine := Nat.lt_of_le_of_lt h (by decide)
def Cur (c : Addr) (M : Mm) : Prop := ∃ k : Nat, M c = some (.lst [.int k])
/-- all but the cursor stays -/
structure Dr (c : Addr) (M M' : Mm) : Prop where
  ex : ∀ a o, a ≠ c → M a = some o → M' a = some o
  cur : Cur c M → Cur c M'
structure Dw (p c : Addr) (M : Mm) : Prop where
  ne : p ≠ c
  nums : ∃ ds, M p = some (.lst ds) ∧ 0 < ds.length ∧ ds.length ≤ 3000 ∧ ∀ d ∈ ds, ∃ n : Nat, d = .int n
  cur : Cur c M
theorem Dr.refl {c : Addr} (M : Mm) : Dr c M M := ⟨fun _ _ _ h => h, fun h => h⟩
theorem Dr.trans {c : Addr} {M M1 M2 : Mm} (a : Dr c M M1) (b : Dr c M1 M2) : Dr c M M2 := ⟨fun x o n h => b.ex x o n (a.ex x o n h), fun h => b.cur (a.cur h)⟩
theorem Dr.ofExt {c : Addr} {M M' : Mm} (e : Ext M M') : Dr c M M' := ⟨fun a o _ h => e a o h, fun ⟨k, h⟩ => ⟨k, e _ _ h⟩⟩
theorem Dr.new {c p : Addr} {M : Mm} {o : MO} (h : M p = none) : Dr c M (updM M p o) := .ofExt (Ext.new h)
theorem Dr.mut {c p : Addr} {M M' : Mm} {o : MO} (e : Dr c M M') (hc : Cur c M) (h : M p = none) : Dr c M (updM M' p o) := by
  have hne : c ≠ p := fun z => by subst z; obtain ⟨k, hk⟩ := hc; rw [h] at hk; cases hk
  exact ⟨fun a u n q => by rw [updM_ne (Ext.ne q h)]; exact e.ex a u n q, fun _ => by obtain ⟨k, hk⟩ := e.cur hc; exact ⟨k, by rw [updM_ne hne]; exact hk⟩⟩
theorem Dr.back {c p : Addr} {M M' : Mm} (e : Dr c M M') (hc : Cur c M) (h : M' p = none) : M p = none := by
  cases q : M p with
  | none => rfl
  | some o =>
    have : p ≠ c := fun z => by subst z; obtain ⟨k, hk⟩ := e.cur hc; rw [h] at hk; cases hk
    have := e.ex p o this q; rw [h] at this; cases this
theorem Dw.go {p c : Addr} {M M' : Mm} (d : Dw p c M) (e : Dr c M M') : Dw p c M' :=
  ⟨d.ne, let ⟨ds, h1, h2⟩ := d.nums; ⟨ds, e.ex _ _ d.ne h1, h2⟩, e.cur d.cur⟩
theorem Dw.cne {p c q : Addr} {M : Mm} (d : Dw p c M) (h : M q = none) : q ≠ c := fun z => by
  subst z; obtain ⟨k, hk⟩ := d.cur; rw [h] at hk; cases hk
def sp_take : DSp := fun ds M Q _ => ∃ (p c : Addr) (m : Nat), ds = [.ref p, .ref c, .int m] ∧ 0 < m ∧ Dw p c M ∧ ∀ r : Nat, r < m → ∀ M', Dr c M M' → Q (.int r) M'
theorem r__law_take : ∀ ds M Q E, sp_take ds M Q E → b__law_take (En Q) (startD 4 ds) M := by
  rintro ds M Q E ⟨p, c, m, rfl, hm, dw, h⟩
  obtain ⟨xs, hp, h0, h3, hx⟩ := dw.nums
  obtain ⟨k, hc⟩ := dw.cur
  have hlt : k % xs.length < xs.length := Nat.mod_lt _ h0
  obtain ⟨n, hn⟩ := hx _ (List.getElem_mem hlt)
  have hat : xs[k % xs.length]? = some (.int n) := by rw [List.getElem?_eq_getElem hlt, hn]
  refine .inl ⟨_, 0, _, hc, rfl, at0, .inl ⟨xs, hp, ⟨by omega, .inl ⟨xs, _, _, hp, rfl, atI_nat (j := k % xs.length) hat, ?_⟩⟩⟩⟩
  refine .inl ⟨_, 0, _, hc, rfl, at0, .inl ⟨_, 0, 0, hc, rfl, rfl, ?_⟩⟩
  refine ⟨by omega, ?_⟩
  have := h (n % m) (Nat.mod_lt _ hm) (updM M c (.lst [.int ((k + 1 : Nat) : Int)])) ⟨fun a o na ha => by rw [updM_ne na]; exact ha, fun _ => ⟨_, updM_same⟩⟩
  exact this
/-! ### the stream -/
def sp_mix : DSp := fun ds M Q _ => ∃ (a k : Int), ds = [.int a, .int k] ∧ ∀ r : Nat, Q (.int r) M
theorem r__law_mix : ∀ ds M Q E, sp_mix ds M Q E → b__law_mix (En Q) (startD 2 ds) M := by
  rintro ds M Q E ⟨a, k, rfl, h⟩
  refine ⟨.inr ⟨by decide, by decide⟩, .inr ⟨by decide, by decide⟩, (by decide : (0:Int) < 2147483647), .inr ⟨by decide, by decide⟩, .inr ⟨by decide, by decide⟩, (by decide : (0:Int) < 2147483399), ?_⟩
  obtain ⟨r, hr⟩ := Int.eq_ofNat_of_zero_le (Int.emod_nonneg (((a * 48271 + k * 69621 + 12345) % 2147483647) * 40692 + k * 52774 + 7) (b := 2147483399) (by decide))
  exact qi (h r) hr
def sp_arity : DSp := fun ds M Q _ => ∃ (o : Op) (m : Nat), ds = [.str o.nm] ∧ o.ar = m ∧ RetV M Q (.int m)
theorem r__law_arity : ∀ ds M Q E, sp_arity ds M Q E → b__law_arity (En Q) (startD 1 ds) M := by
  rintro ds M Q E ⟨o, m, rfl, rfl, h⟩
  refine ⟨by decide, fun p hp => ?_⟩
  refine .inl ⟨_, updM_same, rfl, rfl, ?_⟩
  have h := h _ (Ext.new (o := .lst [.str "not", .str "neg"]) hp)
  cases o
  all_goals
    walk_at "if"
    first
      | exact h
      | (walk_at "if"; exact h)
theorem fl_at {ns : List Int} {i : Nat} (h : i < ns.length) : ∃ n : Int, (ns.map D.int)[i]? = some (.int n) := ⟨ns[i], by simp [h]⟩
def NumL (M : Mm) (p : Addr) (B : Nat) : Prop := ∃ ds, M p = some (.lst ds) ∧ ds.length ≤ B ∧ ∀ d ∈ ds, ∃ n : Nat, d = .int n
theorem NumL.push {M : Mm} {p : Addr} {ds : List D} {n : Int} {B : Nat} (h1 : ds.length ≤ B) (h2 : ∀ d ∈ ds, ∃ n : Nat, d = .int n) (hn : 0 ≤ n) : NumL (updM M p (.lst (ds ++ [.int n]))) p (B + 1) :=
  ⟨_, updM_same, by rw [List.length_append]; show ds.length + 1 ≤ B + 1; omega, fun d hd => by
    rcases List.mem_append.mp hd with hd | hd
    · exact h2 d hd
    · obtain ⟨m, rfl⟩ := Int.eq_ofNat_of_zero_le hn
      exact ⟨m, List.mem_singleton.mp hd⟩⟩
theorem NumL.mono {M : Mm} {p : Addr} {B C : Nat} (h : NumL M p B) (l : B ≤ C) : NumL M p C := let ⟨ds, h1, h2, h3⟩ := h; ⟨ds, h1, by omega, h3⟩
theorem rng_at {lo : Int} {n i : Nat} {d : D} (h : (rngD lo n)[i]? = some d) : i < n ∧ d = .int (lo + i) := by
  unfold rngD at h
  have hl : i < n := by have := lt_at h; simpa using this
  refine ⟨hl, ?_⟩
  rw [List.getElem?_map, List.getElem?_range hl] at h
  cases h; rfl
theorem rng_len {lo : Int} {n : Nat} : (rngD lo n).length = n := by unfold rngD; simp
def sp_stream : DSp := fun ds M Q _ => ∃ (ns : List Int) (m : Nat), ds = [.fl (ns.map D.int), .int m] ∧ ns.length ≤ 63 ∧ m ≤ 400 ∧ 0 < m ∧ ∀ p M', M p = none → Ext M M' → (∃ ds, M' p = some (.lst ds) ∧ 0 < ds.length ∧ ds.length ≤ 3000 ∧ ∀ d ∈ ds, ∃ n : Nat, d = .int n) → Q (.ref p) M'
theorem r__law_stream : ∀ ds M Q E, sp_stream ds M Q E → b__law_stream sp_mix (En Q) (startD 7 ds) M := by
  rintro ds M Q E ⟨ns, m, rfl, h63, hm, hm0, h⟩
  refine ⟨by show 0 ≤ sizeLine; decide, fun p hp => ?_⟩
  have hlen : ((ns.map D.int).length : Int) ≤ 63 := by rw [List.length_map]; omega
  refine ⟨by show -(2 ^ 62) ≤ (if ((ns.map D.int).length : Int) < 63 then ((ns.map D.int).length : Int) else 63); split <;> omega, by show (if ((ns.map D.int).length : Int) < 63 then ((ns.map D.int).length : Int) else 63) < _; split <;> omega, ?_⟩
  refine ⟨fun i E M' => Ext M M' ∧ NumL M' p (40 * i) ∧ ∃ l : Int, ∃ x y z, E = [some (.fl (ns.map D.int)), some (.int m), some (.ref p), some (.int l), x, y, z], ⟨Ext.new hp, ⟨[], updM_same, by simp, by simp⟩, 1, none, none, none, rfl⟩, fun _ _ _ _ => trivial, ?_, ?_⟩
  · rintro i E M' d hd ⟨hx, hl, l, x, y, z, rfl⟩
    obtain ⟨hi, rfl⟩ := rng_at hd
    have hi : i < (if ((ns.map D.int).length : Int) < 63 then ((ns.map D.int).length : Int) else 63).toNat := hi
    have hi : i < ns.length := by
      rw [List.length_map] at hi
      split at hi <;> omega
    obtain ⟨v, hv⟩ := fl_at hi
    rw [Int.zero_add]
    refine ⟨_, atI_nat hv, ?_⟩
    have hc0 : 0 ≤ (if v < 0 then -v else v) := by split <;> omega
    refine ⟨(by decide : (0:Int) < 2147483647), _, _, rfl, fun r => ?_⟩
    refine ⟨⟨by decide, by decide, by decide⟩, fun hb => ?_, fun hb => ?_⟩
    · refine ⟨by decide, by decide, ?_⟩
      refine ⟨fun j E M' => Ext M M' ∧ NumL M' p (40 * i + j) ∧ ∃ l c : Int, ∃ z, 0 ≤ c ∧ E = [some (.fl (ns.map D.int)), some (.int m), some (.ref p), some (.int l), some (.int (i : Int)), some (.int c), z], ⟨hx, hl, r, _, z, hc0, rfl⟩, fun _ _ _ _ => trivial, ?_, ?_⟩
      · rintro j E M' d hd ⟨hx, hl, l, c, z, hc0, rfl⟩
        obtain ⟨hj, rfl⟩ := rng_at hd
        refine ⟨fun hb => ?_, fun hb => ⟨hx, hl.mono (by omega), l, c, _, hc0, rfl⟩⟩
        obtain ⟨ds, h1, h2, h3⟩ := hl
        have hi3 := hi
        have hj : j < 40 := hj
        refine ⟨⟨ds, h1⟩, (by decide : (0:Int) < 1009), ds, h1, tolist (by omega), ⟨by decide, by decide⟩, ?_⟩
        exact ⟨Ext.mut hx hp, NumL.push (n := c % 1009) h2 h3 (Int.emod_nonneg _ (by decide)), l, c / 1009, _, Int.ediv_nonneg hc0 (by decide), rfl⟩
      · rintro E M' ⟨hx, hl, l, c, z, hc0, rfl⟩
        have e : (rngD 0 (40 : Int).toNat).length = 40 := rng_len
        rw [e] at hl
        exact ⟨hx, hl.mono (by omega), l, _, _, _, rfl⟩
    · obtain ⟨ds, h1, h2, h3⟩ := hl
      refine ⟨⟨ds, h1⟩, _, _, rfl, fun r2 => ⟨(by decide : (0:Int) < 1009), ds, h1, tolist (by omega), ?_⟩⟩
      exact ⟨Ext.mut hx hp, (NumL.push (n := (r2 : Int) % 1009) h2 h3 (Int.emod_nonneg _ (by decide))).mono (by omega), r, _, _, _, rfl⟩
  · rintro E M' ⟨hx, hl, l, x, y, z, rfl⟩
    rw [rng_len] at hl
    have hl : NumL M' p 2520 := hl.mono (by
      show 40 * (if ((ns.map D.int).length : Int) < 63 then ((ns.map D.int).length : Int) else 63).toNat ≤ 2520
      rw [List.length_map]
      split <;> omega)
    refine ⟨by omega, by omega, ?_⟩
    refine ⟨fun i E M' => Ext M M' ∧ (NumL M' p (2520 + i) ∧ (0 < i → ∀ ds, M' p = some (.lst ds) → 0 < ds.length)) ∧ ∃ l : Int, ∃ x y z, E = [some (.fl (ns.map D.int)), some (.int m), some (.ref p), some (.int l), x, y, z], ⟨hx, ⟨hl, fun h => absurd h (by omega)⟩, l, x, y, z, rfl⟩, fun _ _ _ _ => trivial, ?_, ?_⟩
    · rintro i E M' d hd ⟨hx, ⟨hl, hq⟩, l, x, y, z, rfl⟩
      obtain ⟨hi, rfl⟩ := rng_at hd
      have hi : i < m := by have : i < (m : Int).toNat := hi; omega
      obtain ⟨ds, h1, h2, h3⟩ := hl
      refine .inl ⟨ds, h1, fun hb => ?_, fun hb => ?_⟩
      · refine .inl ⟨ds, h1, _, _, rfl, fun r => ?_⟩
        refine ⟨⟨ds, h1⟩, (by decide : (0:Int) < 1009), ds, h1, tolist (by omega), ?_⟩
        exact ⟨Ext.mut hx hp, ⟨(NumL.push (n := (r : Int) % 1009) h2 h3 (Int.emod_nonneg _ (by decide))).mono (by omega), fun _ es he => by
          rw [updM_same] at he; cases he; simp⟩, r, _, _, _, rfl⟩
      · have hb := of_decide_eq_false hb
        exact ⟨hx, ⟨⟨ds, h1, by omega, h3⟩, fun _ es he => by rw [h1] at he; cases he; omega⟩, l, _, _, _, rfl⟩
    · rintro E M' ⟨hx, ⟨hl, hq⟩, l, x, y, z, rfl⟩
      rw [rng_len] at hl hq
      obtain ⟨ds, h1, h2, h3⟩ := hl
      have h2 : ds.length ≤ 2520 + (m : Int).toNat := h2
      have hq : 0 < (m : Int).toNat → ∀ ds, M' p = some (.lst ds) → 0 < ds.length := hq
      exact h p M' hp hx ⟨ds, h1, hq (by omega) ds h1, by omega, h3⟩
end Rd

set_option Elab.async false
set_option linter.all false
set_option autoImplicit false
set_option maxRecDepth 100000
set_option maxHeartbeats 4000000
/-! readings: the law's own formulas -/
namespace Rd
open PySem PySem.Spec PyProof.Rows L2 DH Bd
local macro_rules | `(tactic| walk_at "if") => `(tactic| first | (refine ⟨fun _ => ?_, fun hc => absurd hc (by decide)⟩) | (refine ⟨fun hc => absurd hc (by decide), fun _ => ?_⟩))
def sp_whole : DSp := fun ds M Q _ => ∃ a b : Int, ds = [.int a, .int b] ∧ Q (.bl (decide (a = b))) M
theorem r__law_is_whole : ∀ ds M Q E, sp_whole ds M Q E → b__law_is_whole (En Q) (startD 2 ds) M := by
  rintro ds M Q E ⟨a, b, rfl, h⟩
  walk_at "if"
  walk_at "if"
  exact h
def sp_truth : DSp := fun ds M Q _ => ∃ a b : Bool, ds = [.bl a, .bl b] ∧ Q (.bl (decide (a = b))) M
theorem r__law_truth : ∀ ds M Q E, sp_truth ds M Q E → b__law_truth (En Q) (startD 2 ds) M := by
  rintro ds M Q E ⟨a, b, rfl, h⟩
  walk_at "if"
  exact h
def sp_two : DSp := fun ds M Q _ => ∃ (o : Op) (w x y : Nat), ds = [.str o.nm, .int w, .int x, .int y] ∧ o.ar = 2 ∧ 1 ≤ w ∧ w ≤ 4 ∧ x < 2 ^ w ∧ y < 2 ^ w ∧ Q (.int (o.v w [x, y])) M
theorem two_ok : ∀ w : Fin 5, ∀ x y : Fin 16, 1 ≤ w.1 → x.1 < 2 ^ w.1 → y.1 < 2 ^ w.1 → ((x.1 : Int) + y.1) % (1 * 2 ^ (w.1 : Int).toNat) = (Op.add.v w.1 [x.1, y.1] : Nat) ∧ ((x.1 : Int) - y.1) % (1 * 2 ^ (w.1 : Int).toNat) = (Op.sub.v w.1 [x.1, y.1] : Nat) ∧
    ((x.1 : Int) * y.1) % (1 * 2 ^ (w.1 : Int).toNat) = (Op.mul.v w.1 [x.1, y.1] : Nat) ∧ ((x.1 : Int) * 2 ^ (y.1 : Int).toNat) % (1 * 2 ^ (w.1 : Int).toNat) = (Op.shl.v w.1 [x.1, y.1] : Nat) ∧
    decide (((x.1 : Int) + (1 * 2 ^ (w.1 : Int).toNat) / 2) % (1 * 2 ^ (w.1 : Int).toNat) < ((y.1 : Int) + (1 * 2 ^ (w.1 : Int).toNat) / 2) % (1 * 2 ^ (w.1 : Int).toNat)) = decide (sgn w.1 x.1 < sgn w.1 y.1) := by decide +kernel
theorem r__law_two : ∀ ds M Q E, sp_two ds M Q E → b__law_two (En Q) (startD 5 ds) M := by
  rintro ds M Q E ⟨o, w, x, y, rfl, ho, h1, h4, hx, hy, h⟩
  refine ⟨cpow w (by omega) (by decide), ?_⟩
  have g := two_ok ⟨w, by omega⟩ ⟨x, sm h4 hx⟩ ⟨y, sm h4 hy⟩ h1 hx hy
  have hp : (0 : Int) < 1 * 2 ^ (w : Int).toNat := by rw [pow_cast]; have := Nat.two_pow_pos w; omega
  have hy4 := sm h4 hy
  have hx4 := sm h4 hx
  cases o <;> first | (exact absurd ho (by decide)) | skip
  case and => walk_at "if"; exact qi h (and_ok x y)
  case or => walk_at "if"; walk_at "if"; exact qi h (or_ok ⟨x, hx4⟩ ⟨y, hy4⟩)
  case xor => iterate 3 walk_at "if"
              exact qi h (xor_ok ⟨x, hx4⟩ ⟨y, hy4⟩)
  case add => iterate 4 walk_at "if"
              exact ⟨hp, qi h g.1⟩
  case sub => iterate 5 walk_at "if"
              exact ⟨hp, qi h g.2.1⟩
  case mul => iterate 6 walk_at "if"
              exact ⟨.inl ⟨by omega, by omega⟩, hp, qi h g.2.2.1⟩
  case shl => iterate 7 walk_at "if"
              exact ⟨⟨by omega, by omega, by omega⟩, hp, qi h g.2.2.2.1⟩
  case shr => iterate 8 walk_at "if"
              exact ⟨by omega, qi h (shr_ok x y)⟩
  case eq => iterate 9 walk_at "if"
             refine qi h (bi_ok _ _ ?_)
             rw [Bool.eq_iff_iff]; simp; omega
  case lt => iterate 10 walk_at "if"
             refine qi h (bi_ok _ _ ?_)
             rw [Bool.eq_iff_iff]; simp
  case slt => iterate 10 walk_at "if"
              exact ⟨⟨by decide, by decide⟩, hp, ⟨by decide, by decide⟩, hp, qi h (bi_ok _ _ g.2.2.2.2)⟩
/-! ### drawn formulas -/
theorem wfD_mk {w : Nat} {nms : List Str} {o : Op} {t : List D} (h1 : t.length = o.ar) (h2 : ∀ d ∈ t, wfD w nms d = true) : wfD w nms (.tup (.str o.nm :: t)) = true := by
  have hs : ∀ t : List D, (∀ d ∈ t, wfD w nms d = true) → wfDs w nms t = true := fun t => by
    induction t with
    | nil => intro _; rfl
    | cons a t ih => intro h; simp only [wfDs, h a (by simp), ih fun d hd => h d (by simp [hd]), Bool.and_self]
  simp only [wfD, opOf_of, h1, hs t h2, beq_self_eq_true, Bool.and_self]
theorem depthDs_le {k : Nat} : ∀ {t : List D}, (∀ d ∈ t, depthD d ≤ k) → depthDs t ≤ k
  | [], _ => Nat.zero_le _
  | a :: t, h => by
    have h1 := h a (by simp)
    have h2 := depthDs_le fun d hd => h d (List.mem_cons_of_mem _ hd)
    simp only [depthDs]; omega
theorem words_at : ∀ r : Fin 14, ∃ o : Op, ops[r.1]? = some o := fun r => ⟨ops[r.1], by rw [List.getElem?_eq_getElem (show r.1 < ops.length from r.2)]⟩
def sp_formula (n : Nat) : DSp := fun ds M Q _ => ∃ (p c q : Addr) (w k : Nat) (nms : List Str), ds = [.ref p, .ref c, .ref q, .int w, .int k] ∧ k < n ∧ 1 ≤ w ∧ w ≤ 4 ∧ Dw p c M ∧ q ≠ c ∧ M q = some (.lst (nms.map .str)) ∧ ∀ d, wfD w nms d = true → depthD d ≤ k → ∀ M', Dr c M M' → Q d M'
theorem r__law_formula (n : Nat) : ∀ ds M Q E, sp_formula (n + 1) ds M Q E → b__law_formula sp_take sp_arity (sp_formula n) (En Q) (startD 9 ds) M := by
  rintro ds M Q E ⟨p, c, q, w, k, nms, rfl, hk, h1, h4, dw, hqc, hq, h⟩
  refine ⟨by show 14 ≤ sizeLine; decide, fun pw hpw => ?_⟩
  have hwc := dw.cne hpw
  have d0 : Dr c M (updM M pw (.lst (ops.map fun o => D.str o.nm))) := .new hpw
  have hw : updM M pw (.lst (ops.map fun o => D.str o.nm)) pw = some (.lst (ops.map fun o => D.str o.nm)) := updM_same
  have leafI : ∀ r : Nat, r < 2 ^ w → ∀ M', Dr c M M' → Q (.int r) M' := fun r hr M' e => h _ (by simp only [wfD, Bool.and_eq_true, decide_eq_true_eq]; omega) (Nat.zero_le _) M' e
  have leafS : ∀ s ∈ nms, ∀ M', Dr c M M' → Q (.str s) M' := fun s hs M' e => h _ (by simp only [wfD, decide_eq_true_eq]; exact hs) (Nat.zero_le _) M' e
  have hpow : (1 : Int) * 2 ^ (w : Int).toNat = ((2 ^ w : Nat) : Int) := pow_cast w
  have hpp := Nat.two_pow_pos w
  have low : ∀ M1, Dr c M M1 → oShl (.int 1) (.int w) M1 fun x M2 => sp_take [.ref p, .ref c, x] M2 Q E := fun M1 e => ⟨cpow w (by omega) (by decide), p, c, 2 ^ w, by show [_, _, D.int (1 * 2 ^ (w : Int).toNat)] = _; rw [hpow], hpp, dw.go e, fun r hr M2 e2 => leafI r hr M2 (e.trans e2)⟩
  have hlq : ∀ M1, Dr c M M1 → M1 q = some (.lst (nms.map .str)) := fun M1 e => e.ex _ _ hqc hq
  cases k with
  | zero =>
    walk_at "if"
    walk_at "if"
    refine .inl ⟨_, hlq _ d0, fun hb => ?_, fun hb => ⟨fun hc => absurd hc (by decide), fun _ => low _ d0⟩⟩
    refine ⟨p, c, 4, rfl, by decide, dw.go d0, fun r hr M2 d2 => ⟨fun hb2 => ?_, fun hb2 => low _ (d0.trans d2)⟩⟩
    have hl := of_decide_eq_true hb
    have d2 := d0.trans d2
    refine .inl ⟨_, hlq _ d2, p, c, _, rfl, by omega, dw.go d2, fun r hr M3 d3 => ?_⟩
    rw [List.length_map] at hr
    refine .inl ⟨_, _, .str nms[r], hlq _ (d2.trans d3), rfl, atI_nat (by simp [hr]), leafS _ (List.getElem_mem hr) _ (d2.trans d3)⟩
  | succ k =>
    refine ⟨fun hc => absurd (of_decide_eq_true hc) (by omega), fun _ => ?_⟩
    refine ⟨p, c, 4, rfl, by decide, dw.go d0, fun r hr M2 d2 => ⟨fun hb2 => ?_, fun hb2 => ?_⟩⟩
    · have d0 := d0.trans d2
      refine .inl ⟨_, hlq _ d0, fun hb => ?_, fun hb => ⟨fun hc => absurd hc (by decide), fun _ => low _ d0⟩⟩
      refine ⟨p, c, 4, rfl, by decide, dw.go d0, fun r hr M2 d2 => ⟨fun hb2 => ?_, fun hb2 => low _ (d0.trans d2)⟩⟩
      have hl := of_decide_eq_true hb
      have d2 := d0.trans d2
      refine .inl ⟨_, hlq _ d2, p, c, _, rfl, by omega, dw.go d2, fun r hr M3 d3 => ?_⟩
      rw [List.length_map] at hr
      refine .inl ⟨_, _, .str nms[r], hlq _ (d2.trans d3), rfl, atI_nat (by simp [hr]), leafS _ (List.getElem_mem hr) _ (d2.trans d3)⟩
    · have d2 := d0.trans d2
      refine ⟨p, c, 14, rfl, by decide, dw.go d2, fun r hr M3 d3 => ?_⟩
      obtain ⟨o, ho⟩ := words_at ⟨r, hr⟩
      have hw3 : M3 pw = some (.lst (ops.map fun o => D.str o.nm)) := by
        apply d3.ex _ _ hwc
        rename_i d2'
        exact d2'.ex _ _ hwc hw
      have d3 := d2.trans d3
      refine .inl ⟨_, _, .str o.nm, hw3, rfl, atI_nat (by simp [ho]), ?_⟩
      refine ⟨by show 1 ≤ sizeLine; decide, fun pp hpp => ?_⟩
      have hp0 := d3.back dw.cur hpp
      refine ⟨o, _, rfl, rfl, fun M4 e4 => ?_⟩
      have h3 : o.ar ≤ 3 := by cases o <;> decide
      refine ⟨by omega, by omega, ?_⟩
      have e4' := (d3.trans (.new hpp)).trans (.ofExt e4)
      refine ⟨fun i E M' => Dr c M M' ∧ (∃ t, M' pp = some (.lst (.str o.nm :: t)) ∧ t.length = i ∧ ∀ d ∈ t, wfD w nms d = true ∧ depthD d ≤ k) ∧ ∃ x, E = [some (.ref p), some (.ref c), some (.ref q), some (.int w), some (.int ((k + 1 : Nat) : Int)), some (.ref pw), some (.str o.nm), some (.ref pp), x], ⟨e4', ⟨[], e4 _ _ updM_same, rfl, by simp⟩, none, rfl⟩, fun _ _ _ _ => trivial, ?_, ?_⟩
      · rintro i E M' d hd ⟨hx, ⟨t, ht, hl, hall⟩, x, rfl⟩
        obtain ⟨hi, rfl⟩ := rng_at hd
        have hi : i < o.ar := by have : i < (o.ar : Int).toNat := hi; omega
        refine ⟨⟨_, ht⟩, p, c, q, w, k, nms, ?_, by omega, h1, h4, dw.go hx, hqc, hlq _ hx, fun d hd1 hd2 M5 e5 => ?_⟩
        · show [_, _, _, _, D.int (((k + 1 : Nat) : Int) - 1)] = _
          rw [show (((k + 1 : Nat) : Int) - 1) = (k : Int) by omega]
        refine ⟨_, e5.ex _ _ (dw.cne hp0) ht, tolist (by simp; omega), (hx.trans e5).mut dw.cur hp0, ⟨t ++ [d], updM_same, by simp [hl], fun e he => ?_⟩, _, rfl⟩
        rcases List.mem_append.mp he with he | he
        · exact hall e he
        · cases List.mem_singleton.mp he; exact ⟨hd1, hd2⟩
      · rintro E M' ⟨hx, ⟨t, ht, hl, hall⟩, x, rfl⟩
        rw [rng_len] at hl
        have hl : t.length = (o.ar : Int).toNat := hl
        refine ⟨_, ht, h _ (wfD_mk (by omega) fun d hd => (hall d hd).1) ?_ _ hx⟩
        rw [depthD_tup]
        have := depthDs_le fun d hd => (hall d hd).2
        show depthDs t + 1 ≤ k + 1
        omega
end Rd

set_option Elab.async false
set_option linter.all false
set_option autoImplicit false
set_option maxRecDepth 100000
set_option maxHeartbeats 4000000
/-! readings: the law's own meaning of a formula -/
namespace Rd
open PySem PySem.Spec PyProof.Rows L2 DH Bd
local macro_rules | `(tactic| walk_at "if") => `(tactic| first | (refine ⟨fun _ => ?_, fun hc => absurd hc (by decide)⟩) | (refine ⟨fun hc => absurd hc (by decide), fun _ => ?_⟩))
theorem Ext.lst {M M' : Mm} (e : Ext M M') {a : Addr} {o : MO} (h : M a = some o) : M' a = some o := e a o h
theorem map_snoc {α β : Type} (f : α → β) {l : List α} {i : Nat} {x : α} (h : l[i]? = some x) : (l.take (i + 1)).map f = (l.take i).map f ++ [f x] := by rw [take_snoc h, List.map_append]; rfl
def sp_lvalue (n : Nat) : DSp := fun ds M Q _ => ∃ (d : D) (w : Nat) (a : Addr) (ρ : Str → Nat) (nms : List Str), ds = [d, .int w, .ref a] ∧ 1 ≤ w ∧ w ≤ 4 ∧ wfD w nms d = true ∧ depthD d < n ∧ EnvM M a w ρ nms ∧ RetV M Q (.int (evD w ρ d))
theorem ev1 : ∀ w : Fin 5, ∀ x : Fin 16, 1 ≤ w.1 → x.1 < 2 ^ w.1 → (1 * 2 ^ (w.1 : Int).toNat - 1 - (x.1 : Int)) = ((Op.not.v w.1 [x.1] : Nat) : Int) ∧ ((0 - (x.1 : Int)) % (1 * 2 ^ (w.1 : Int).toNat)) = ((Op.neg.v w.1 [x.1] : Nat) : Int) := by decide +kernel
theorem r__law_value (n : Nat) : ∀ ds M Q E, sp_lvalue (n + 1) ds M Q E → b__law_value (sp_lvalue n) sp_two (En Q) (startD 5 ds) M := by
  rintro ds M Q E ⟨d, w, a, ρ, nms, rfl, hw, h4, hd, hn, he, h⟩
  cases d with
  | int i =>
    walk_at "if"
    refine qi (h M (Ext.refl M)) ?_
    simp only [wfD, Bool.and_eq_true, decide_eq_true_eq] at hd
    simp only [evD]; omega
  | str s =>
    walk_at "if"
    walk_at "if"
    obtain ⟨kvs, h1, h2⟩ := he
    simp only [wfD, decide_eq_true_eq] at hd
    refine .inr ⟨kvs, .inr s, _, h1, rfl, (h2 s hd).1, ?_⟩
    refine qi (h M (Ext.refl M)) ?_
    simp only [evD]
  | tup ds =>
    obtain ⟨o, t, rfl, hl, ht, hev⟩ := op_inv hd
    walk_at "if"
    walk_at "if"
    intro p hp
    have hlt : ∀ x ∈ t.map (evD w ρ), x < 2 ^ w := fun x hx => by
      obtain ⟨d, hd, rfl⟩ := List.mem_map.mp hx
      obtain ⟨kvs, h1, h2⟩ := he
      exact ev_lt hw (fun s hs => (h2 s hs).2) d (ht d hd)
    refine ⟨fun i acc M' => Ext M M' ∧ M' p = some (.lst acc) ∧ acc = (t.take i).map (fun d => D.int (evD w ρ d : Nat)), ⟨Ext.new hp, updM_same, rfl⟩, fun _ _ _ _ => trivial, ?_, ?_⟩
    · rintro i acc M' d hd ⟨hx, hl2, rfl⟩
      rw [cut1] at hd
      have hd : t[i]? = some d := hd
      have hm := mem_at hd
      have h1 := depthD_mem hm
      rw [depthD_tup] at hn
      have hn : depthDs t + 1 < n + 1 := hn
      refine ⟨fun _ => ⟨d, w, a, ρ, nms, rfl, hw, h4, ht d hm, by omega, he.ext hx, fun M1 e1 => ?_⟩, fun hc => absurd hc (by decide)⟩
      have hlt := lt_at hd
      have h3 : o.ar ≤ 3 := by cases o <;> decide
      refine ⟨e1 _ _ hl2, ?_, (hx.trans e1).mut hp, updM_same, (map_snoc _ hd).symm⟩
      rw [List.length_map, List.length_take]
      exact Nat.lt_of_le_of_lt (show min i t.length ≤ 3 by omega) (by decide)
    · rintro acc M' ⟨hx, hl2, rfl⟩
      rw [cut1] at hl2
      have hl2 : M' p = some (.lst ((t.take t.length).map fun d => D.int (evD w ρ d : Nat))) := hl2
      rw [List.take_length, ← wds_map] at hl2
      have h := h M' hx
      rw [hev] at h
      generalize hxs : t.map (evD w ρ) = xs at hl2 h hlt
      have hlx : xs.length = o.ar := by rw [← hxs, List.length_map]; exact hl
      refine ⟨_, at0, ?_⟩
      have one : o.ar = 1 → ∃ x, xs = [x] := fun e => by rw [e] at hlx; match xs, hlx with
        | [x], _ => exact ⟨x, rfl⟩
      have two : o.ar = 2 → ∃ x y, xs = [x, y] := fun e => by rw [e] at hlx; match xs, hlx with
        | [x, y], _ => exact ⟨x, y, rfl⟩
      by_cases hn : o = .not
      · subst hn
        obtain ⟨x, rfl⟩ := one rfl
        walk_at "if"
        refine ⟨cpow w (by omega) (by decide), .inl ⟨_, _, _, hl2, rfl, at0, ?_⟩⟩
        exact qi h (ev1 ⟨w, by omega⟩ ⟨x, sm h4 (hlt x (by simp))⟩ hw (hlt x (by simp))).1
      refine ⟨fun hc => absurd (of_decide_eq_true hc) (by cases o <;> first | exact absurd rfl hn | decide), fun _ => ⟨_, at0, ?_⟩⟩
      by_cases hg : o = .neg
      · subst hg
        obtain ⟨x, rfl⟩ := one rfl
        walk_at "if"
        refine .inl ⟨_, _, _, hl2, rfl, at0, cpow w (by omega) (by decide), ?_⟩
        have hp : (0 : Int) < 1 * 2 ^ (w : Int).toNat := by rw [pow_cast]; have := Nat.two_pow_pos w; omega
        exact ⟨hp, qi h (ev1 ⟨w, by omega⟩ ⟨x, sm h4 (hlt x (by simp))⟩ hw (hlt x (by simp))).2⟩
      refine ⟨fun hc => absurd (of_decide_eq_true hc) (by cases o <;> first | exact absurd rfl hg | decide), fun _ => ⟨_, at0, ?_⟩⟩
      by_cases hk : o = .pick
      · subst hk
        obtain ⟨x, y, z, rfl⟩ : ∃ x y z, xs = [x, y, z] := by
          match xs, hlx with
          | [x, y, z], _ => exact ⟨x, y, z, rfl⟩
        walk_at "if"
        refine .inl ⟨_, _, _, hl2, rfl, at0, ?_⟩
        by_cases hz : x = 0
        · subst hz
          exact .inl ⟨_, _, _, hl2, rfl, (rfl : atI (wds [0, y, z]) 2 = _), h⟩
        · have hb : decide ((x : Int) = 0) = false := decide_eq_false (by omega)
          have h : Q (.int (y : Int)) M' := qi h (by show (y : Int) = ((if x = 0 then z else y : Nat) : Int); rw [if_neg hz])
          refine .inl ⟨_, (1 + if decide ((x : Int) = 0) = true then 1 else 0), .int y, hl2, rfl, ?_, h⟩
          rw [hb]; rfl
      refine ⟨fun hc => absurd (of_decide_eq_true hc) (by cases o <;> first | exact absurd rfl hk | decide), fun _ => ⟨_, at0, ?_⟩⟩
      have h2 : o.ar = 2 := by cases o <;> first | rfl | exact absurd rfl hn | exact absurd rfl hg | exact absurd rfl hk
      obtain ⟨x, y, rfl⟩ := two h2
      refine .inl ⟨_, _, _, hl2, rfl, at0, .inl ⟨_, _, _, hl2, rfl, (rfl : atI (wds [x, y]) 1 = _), ?_⟩⟩
      exact ⟨o, w, x, y, rfl, h2, hw, h4, hlt x (by simp), hlt y (by simp), h⟩
  | _ => simp [wfD] at hd
theorem sum_sizes : ∀ t : List D, (t.map fun d => (sizeD d : Int)).sum = (sizeDs t : Int)
  | [] => rfl
  | d :: t => by
    simp only [List.map_cons, List.sum_cons, sum_sizes t, sizeDs]; omega
def sp_lsize (n : Nat) : DSp := fun ds M Q _ => ∃ (d : D) (w : Nat) (nms : List Str), ds = [d] ∧ wfD w nms d = true ∧ depthD d < n ∧ RetV M Q (.int (sizeD d))
theorem ar3 (o : Op) : o.ar ≤ 3 ∧ 1 ≤ o.ar := by cases o <;> decide
theorem r__law_size (n : Nat) : ∀ ds M Q E, sp_lsize (n + 1) ds M Q E → b__law_size (sp_lsize n) (En Q) (startD 2 ds) M := by
  rintro ds M Q E ⟨d, w, nms, rfl, hd, hn, h⟩
  cases d with
  | int i =>
    walk_at "if"
    exact h M (Ext.refl M)
  | str s =>
    walk_at "if"
    exact h M (Ext.refl M)
  | tup ds =>
    obtain ⟨o, t, rfl, hl, ht, hev⟩ := op_inv hd
    have har := ar3 o
    walk_at "if"
    intro p hp
    refine ⟨fun i acc M' => Ext M M' ∧ M' p = some (.lst acc) ∧ acc = (t.take i).map (fun d => D.int (sizeD d : Int)), ⟨Ext.new hp, updM_same, rfl⟩, fun _ _ _ _ => trivial, ?_, ?_⟩
    · rintro i acc M' d hd ⟨hx, hl2, rfl⟩
      rw [cut1] at hd
      have hd : t[i]? = some d := hd
      have hm := mem_at hd
      have h1 := depthD_mem hm
      rw [depthD_tup] at hn
      have hn : depthDs t + 1 < n + 1 := hn
      refine ⟨fun _ => ⟨d, w, nms, rfl, ht d hm, by omega, fun M1 e1 => ?_⟩, fun hc => absurd hc (by decide)⟩
      exact ⟨e1 _ _ hl2, tolist (by rw [List.length_map, List.length_take]; omega), (hx.trans e1).mut hp, updM_same, (map_snoc _ hd).symm⟩
    · rintro acc M' ⟨hx, hl2, rfl⟩
      rw [cut1] at hl2
      have hl2 : M' p = some (.lst ((t.take t.length).map fun d => D.int (sizeD d : Int))) := hl2
      rw [List.take_length] at hl2
      refine ⟨p, t.map (fun d => (sizeD d : Int)), rfl, by rw [List.map_map]; exact hl2, ?_⟩
      refine qi (h M' hx) ?_
      rw [sum_sizes, sizeD_tup]
      show 1 + (sizeDs t : Int) = ((1 + sizeDs t : Nat) : Int)
      omega
  | _ => simp [wfD] at hd
def sp_ldepth (n : Nat) : DSp := fun ds M Q _ => ∃ (d : D) (w : Nat) (nms : List Str), ds = [d] ∧ wfD w nms d = true ∧ depthD d < n ∧ RetV M Q (.int (depthD d))
theorem r__law_depth (n : Nat) : ∀ ds M Q E, sp_ldepth (n + 1) ds M Q E → b__law_depth (sp_ldepth n) (En Q) (startD 2 ds) M := by
  rintro ds M Q E ⟨d, w, nms, rfl, hd, hn, h⟩
  cases d with
  | int i =>
    walk_at "if"
    exact h M (Ext.refl M)
  | str s =>
    walk_at "if"
    exact h M (Ext.refl M)
  | tup ds =>
    obtain ⟨o, t, rfl, hl, ht, hev⟩ := op_inv hd
    have har := ar3 o
    walk_at "if"
    intro p hp
    refine ⟨fun i acc M' => Ext M M' ∧ M' p = some (.lst acc) ∧ acc = (t.take i).map (fun d => D.int (depthD d : Int)), ⟨Ext.new hp, updM_same, rfl⟩, fun _ _ _ _ => trivial, ?_, ?_⟩
    · rintro i acc M' d hd ⟨hx, hl2, rfl⟩
      rw [cut1] at hd
      have hd : t[i]? = some d := hd
      have hm := mem_at hd
      have h1 := depthD_mem hm
      rw [depthD_tup] at hn
      have hn : depthDs t + 1 < n + 1 := hn
      refine ⟨fun _ => ⟨d, w, nms, rfl, ht d hm, by omega, fun M1 e1 => ?_⟩, fun hc => absurd hc (by decide)⟩
      exact ⟨e1 _ _ hl2, tolist (by rw [List.length_map, List.length_take]; omega), (hx.trans e1).mut hp, updM_same, (map_snoc _ hd).symm⟩
    · rintro acc M' ⟨hx, hl2, rfl⟩
      rw [cut1] at hl2
      have hl2 : M' p = some (.lst ((t.take t.length).map fun d => D.int (depthD d : Int))) := hl2
      rw [List.take_length] at hl2
      refine ⟨p, t.map (fun d => (depthD d : Int)), rfl, by rw [List.map_map]; exact hl2, by rw [List.length_map]; omega, fun m hm hall => ?_⟩
      refine qi (h M' hx) ?_
      rw [depthD_tup]
      obtain ⟨d, hd, rfl⟩ := List.mem_map.mp hm
      have h1 := depthD_mem hd
      have h2 : depthDs t ≤ depthD d := depthDs_le fun e he => by
        have := hall _ (List.mem_map.mpr ⟨e, he, rfl⟩)
        omega
      show 1 + (depthD d : Int) = ((depthDs t + 1 : Nat) : Int)
      omega
  | _ => simp [wfD] at hd
end Rd

set_option Elab.async false
set_option linter.all false
set_option autoImplicit false
set_option maxRecDepth 100000
set_option maxHeartbeats 4000000
/-! readings: the law's own names and substitution -/
namespace Rd
open PySem PySem.Spec PyProof.Rows L2 DH Bd
local macro_rules | `(tactic| walk_at "if") => `(tactic| first | (refine ⟨fun _ => ?_, fun hc => absurd hc (by decide)⟩) | (refine ⟨fun hc => absurd hc (by decide), fun _ => ?_⟩))
theorem addN_nodup {f l : List Str} (h : f.Nodup) : (addN f l).Nodup := by
  induction l generalizing f with
  | nil => exact h
  | cons x r ih =>
    show (addN (if x ∈ f then f else f ++ [x]) r).Nodup
    split
    · exact ih h
    · rename_i hx
      exact ih (List.nodup_append.mpr ⟨h, by simp, fun a ha b hb => by cases List.mem_singleton.mp hb; exact fun e => hx (e ▸ ha)⟩)
mutual
theorem names_nodup : ∀ d : D, (namesD d).Nodup
  | .str s => by simp [namesD]
  | .tup [] => by simp [namesD]
  | .tup (x :: t) => by
    have := namess_nodup t [] List.nodup_nil
    simpa only [namesD] using this
  | .int _ => by simp [namesD]
  | .non => by simp [namesD]
  | .bl _ => by simp [namesD]
  | .ref _ => by simp [namesD]
  | .ty _ => by simp [namesD]
  | .kd _ => by simp [namesD]
  | .fl _ => by simp [namesD]
theorem namess_nodup : ∀ (t : List D) (f : List Str), f.Nodup → (namesDs f t).Nodup
  | [], f, h => by simpa only [namesDs] using h
  | d :: t, f, h => by
    have := namess_nodup t _ (addN_nodup (l := namesD d) h)
    simpa only [namesDs] using this
end
theorem addN_filter (f : List Str) : ∀ (l : List Str), l.Nodup → addN f l = f ++ l.filter (fun n => decide (n ∉ f)) := by
  intro l
  induction l generalizing f with
  | nil => intro _; simp [addN]
  | cons x r ih =>
    intro h
    rw [List.nodup_cons] at h
    show addN (if x ∈ f then f else f ++ [x]) r = _
    by_cases hx : x ∈ f
    · rw [if_pos hx, ih f h.2, List.filter_cons, if_neg (by simpa using hx)]
    · rw [if_neg hx, ih _ h.2, List.filter_cons, if_pos (by simpa using hx), List.append_assoc]
      congr 1
      show x :: _ = x :: _
      congr 1
      apply List.filter_congr
      intro y hy
      have : y ≠ x := fun e => h.1 (e ▸ hy)
      simp [this]
def sp_lnames (n : Nat) : DSp := fun ds M Q _ => ∃ d, ds = [d] ∧ tree d = true ∧ depthD d < n ∧ sizeD d ≤ 100000 ∧ RetL M Q ((namesD d).map D.str)
theorem r__law_names (n : Nat) : ∀ ds M Q E, sp_lnames (n + 1) ds M Q E → b__law_names (sp_lnames n) (En Q) (startD 4 ds) M := by
  rintro ds M Q E ⟨d, rfl, ht, hn, hz, h⟩
  cases d with
  | int i =>
    walk_at "if"
    refine ⟨Nat.zero_le _, fun p hp => ?_⟩
    walk_at "if"
    exact h p _ hp (Ext.new hp) updM_same
  | str s =>
    walk_at "if"
    exact ⟨(by show 1 ≤ sizeLine; decide), fun p hp => h p _ hp (Ext.new hp) updM_same⟩
  | tup ds =>
    walk_at "if"
    refine ⟨Nat.zero_le _, fun p hp => ?_⟩
    walk_at "if"
    have hz2 : ∀ i, (namesDs [] ((ds.drop 1).take i)).length ≤ 100000 := fun i => by
      have h1 := names_sizes ((ds.drop 1).take i) []
      rw [sizeD_tup] at hz
      have := sizeDs_take (ds.drop 1) i
      rw [List.length_nil] at h1; omega
    refine ⟨fun i E M' => Ext M M' ∧ ∃ p x y, M p = none ∧ M' p = some (.lst ((namesDs [] ((ds.drop 1).take i)).map D.str)) ∧ E = [some (.tup ds), some (.ref p), x, y], ⟨Ext.new hp, p, none, none, hp, updM_same, rfl⟩, fun _ _ _ _ => trivial, ?_, ?_⟩
    · rintro i E M' d hd ⟨hx, p, x, y, hp, hl, rfl⟩
      rw [cut1] at hd
      have hm := mem_at hd
      have h1 := depthD_mem hm
      rw [depthD_tup] at hn
      have hsd : sizeD d ≤ 100000 := by
        rw [sizeD_tup] at hz
        have := sizeD_mem hm
        omega
      refine ⟨d, rfl, tree_tup ht d (drop_mem hm), by omega, hsd, fun q M1 hq e1 hl1 => ?_⟩
      have hp1 : M1 p = _ := e1 _ _ hl
      have hqp : q ≠ p := fun z => by subst z; rw [hq] at hl; cases hl
      refine ⟨_, hl1, fun r hr => ?_⟩
      have hr0 := (hx.trans e1).back hr
      refine ⟨fun j acc M2 => Ext M1 M2 ∧ M2 r = some (.lst acc) ∧ acc = (((namesD d).take j).filter (fun n => decide (n ∉ namesDs [] ((ds.drop 1).take i)))).map D.str, ⟨Ext.new hr, updM_same, rfl⟩, fun j acc M2 ⟨h2, _⟩ => h2 _ _ hl1, ?_, ?_⟩
      · rintro j acc M2 e he ⟨hx2, hr2, rfl⟩
        rw [List.getElem?_map] at he
        obtain ⟨nme, hn1, rfl⟩ := Option.map_eq_some_iff.mp he
        refine .inl ⟨_, hx2 _ _ hp1, rfl, flat_strs _, fun hb => ?_, fun hb => ?_⟩
        · have hb : ¬ nme ∈ namesDs [] ((ds.drop 1).take i) := by
            have hb : (!inD (.str nme) _) = true := hb
            rw [inD_strs] at hb
            simpa using hb
          refine ⟨hr2, ?_, hx2.mut hr, updM_same, ?_⟩
          · have a3 := names_size d
            rw [List.length_map]
            refine tolist (Nat.le_trans (List.length_filter_le _ _) ?_)
            rw [List.length_take]; omega
          · rw [take_snoc hn1, List.filter_append, List.map_append]
            congr 1
            rw [List.filter_cons, if_pos (by simpa using hb)]; rfl
        · have hb : nme ∈ namesDs [] ((ds.drop 1).take i) := by
            have hb : (!inD (.str nme) _) = false := hb
            rw [inD_strs] at hb
            simpa using hb
          refine ⟨hx2, hr2, ?_⟩
          rw [take_snoc hn1, List.filter_append, List.filter_cons, if_neg (by simpa using hb)]; simp
      · rintro acc M2 ⟨hx2, hr2, rfl⟩
        rw [List.length_map, List.take_length] at hr2
        refine ⟨_, _, hx2 _ _ hp1, hr2, ?_, fun s hs => ?_⟩
        · have a1 := hz2 i
          have a3 := names_size d
          have a4 := List.length_filter_le (fun n => decide (n ∉ namesDs [] ((ds.drop 1).take i))) (namesD d)
          rw [List.length_map, List.length_map]
          exact Nat.le_of_lt (tolist (by omega))
        · have e2 := (hx.trans e1).trans hx2
          refine ⟨e2.trans (Ext.new hs), s, some d, y, e2.back hs, ?_, rfl⟩
          rw [updM_same, take_snoc hd, namesDs_snoc, addN_filter _ _ (names_nodup d), List.map_append]
    · rintro E M' ⟨hx, p, x, y, hp, hl, rfl⟩
      refine h p M' hp hx ?_
      rw [cut1, List.take_length] at hl
      rw [hl]
      cases ds with
      | nil => rfl
      | cons z t => rfl
  | _ => simp [tree] at ht
def sp_lput (n : Nat) : DSp := fun ds M Q _ => ∃ (d : D) (a : Addr) (kvs : List (Key × D)), ds = [d, .ref a] ∧ fullD d = true ∧ depthD d < n ∧ sizeD d ≤ 100000 ∧ M a = some (.dk kvs) ∧ RetV M Q (putF (fun s => valD kvs (.inr s)) d)
theorem r__law_put (n : Nat) : ∀ ds M Q E, sp_lput (n + 1) ds M Q E → b__law_put (sp_lput n) (En Q) (startD 3 ds) M := by
  rintro ds M Q E ⟨d, a, kvs, rfl, hf, hn, hz, ha, h⟩
  cases d with
  | int i =>
    walk_at "if"
    exact h M (Ext.refl M)
  | str s =>
    walk_at "if"
    walk_at "if"
    have h := h M (Ext.refl M)
    simp only [putF] at h
    refine .inr ⟨kvs, .inr s, ha, rfl, fun hb => ?_, fun hb => ?_⟩
    · have hb : (valD kvs (.inr s)).isSome = true := hb
      cases e : valD kvs (.inr s) with
      | none => rw [e] at hb; cases hb
      | some v =>
        rw [e] at h
        exact .inr ⟨kvs, .inr s, v, ha, rfl, e, h⟩
    · have hb : (valD kvs (.inr s)).isSome = false := hb
      cases e : valD kvs (.inr s) with
      | none => rw [e] at h; exact h
      | some v => rw [e] at hb; cases hb
  | tup ds =>
    match ds, hf with
    | x :: t, hf =>
      have hf : fullDs t = true := by simpa [fullD] using hf
      walk_at "if"
      walk_at "if"
      have hsz : t.length ≤ 100000 := by
        have := len_size t
        simp only [sizeD] at hz; omega
      refine ⟨x, at0, (by show 1 ≤ sizeLine; decide), fun q hq p hp => ?_⟩
      have e0 : Ext M (updM M q (.lst [x])) := Ext.new hq
      have hqp : q ≠ p := fun z => by subst z; rw [updM_same] at hp; cases hp
      refine ⟨fun i acc M' => Ext (updM M q (.lst [x])) M' ∧ M' p = some (.lst acc) ∧ acc = (t.take i).map (putF fun s => valD kvs (.inr s)), ⟨Ext.new hp, updM_same, rfl⟩, fun _ _ _ _ => trivial, ?_, ?_⟩
      · rintro i acc M' d hd ⟨hx, hl2, rfl⟩
        rw [cut1] at hd
        have hd : t[i]? = some d := hd
        have hm := mem_at hd
        have h1 := depthD_mem hm
        have h2 := sizeD_mem hm
        rw [depthD_tup] at hn
        rw [sizeD_tup] at hz
        have hn : depthDs t + 1 < n + 1 := hn
        have hz : 1 + sizeDs t ≤ 100000 := hz
        refine ⟨fun _ => ⟨d, a, kvs, rfl, fullDs_mem hf d hm, by omega, by omega, hx _ _ (e0 _ _ ha), fun M1 e1 => ?_⟩, fun hc => absurd hc (by decide)⟩
        exact ⟨e1 _ _ hl2, tolist (by rw [List.length_map, List.length_take]; omega), (hx.trans e1).mut hp, updM_same, (map_snoc _ hd).symm⟩
      · rintro acc M' ⟨hx, hl2, rfl⟩
        rw [cut1] at hl2
        have hl2 : M' p = some (.lst ((t.take t.length).map (putF fun s => valD kvs (.inr s)))) := hl2
        rw [List.take_length] at hl2
        have hq2 : M' q = some (.lst [x]) := hx _ _ updM_same
        refine ⟨_, _, hq2, hl2, ?_, fun r hr => ⟨_, updM_same, ?_⟩⟩
        · rw [List.length_map]
          exact Nat.le_of_lt (tolist (by show 1 + t.length ≤ _; omega))
        · refine qd (h _ ((e0.trans hx).trans (Ext.new hr))) ?_
          simp only [putF, putFs_map]; rfl
    | [], hf => simp [fullD] at hf
  | _ => simp [fullD] at hf
end Rd

set_option Elab.async false
set_option linter.all false
set_option autoImplicit false
set_option maxRecDepth 100000
set_option maxHeartbeats 4000000
/-! readings: rows -/
namespace Rd
open PySem PySem.Spec PyProof.Rows L2 DH Bd
local macro_rules | `(tactic| walk_at "if") => `(tactic| first | (refine ⟨fun _ => ?_, fun hc => absurd hc (by decide)⟩) | (refine ⟨fun hc => absurd hc (by decide), fun _ => ?_⟩))
def rowD (B : Nat) : Nat → Nat → List Nat
  | 0, _ => []
  | k + 1, i => rowD B k (i / B) ++ [i % B]
theorem rowD_len (B : Nat) : ∀ k i, (rowD B k i).length = k
  | 0, _ => rfl
  | k + 1, i => by simp [rowD, rowD_len B k]
def rowsL (B k n : Nat) : List D := (List.range n).map fun i => D.tup (wds (rowD B k i))
theorem rowsL_len (B k n : Nat) : (rowsL B k n).length = n := by simp [rowsL]
theorem rowsL_snoc (B k n : Nat) : rowsL B k (n + 1) = rowsL B k n ++ [.tup (wds (rowD B k n))] := by simp [rowsL, List.range_succ]
theorem rowsL_at {B k n i : Nat} (h : i < n) : (rowsL B k n)[i]? = some (.tup (wds (rowD B k i))) := by simp [rowsL, h]
theorem rowsL_get {B k n i : Nat} {d : D} (h : (rowsL B k n)[i]? = some d) : i < n ∧ d = .tup (wds (rowD B k i)) := by
  have hl := lt_at h
  rw [rowsL_len] at hl
  rw [rowsL_at hl] at h
  cases h; exact ⟨hl, rfl⟩
theorem rowD_mul {B k i j : Nat} (hj : j < B) : rowD B (k + 1) (i * B + j) = rowD B k i ++ [j] := by
  have h1 : (i * B + j) / B = i := by rw [Nat.mul_comm, Nat.mul_add_div (by omega), Nat.div_eq_of_lt hj, Nat.add_zero]
  have h2 : (i * B + j) % B = j := by rw [Nat.mul_comm, Nat.mul_add_mod, Nat.mod_eq_of_lt hj]
  simp only [rowD, h1, h2]
def sp_all_rows : DSp := fun ds M Q _ => ∃ w k : Nat, ds = [.int w, .int k] ∧ w ≤ 100 ∧ k ≤ 1000 ∧ (2 ^ w) ^ k ≤ 1000000 ∧ RetL M Q (rowsL (2 ^ w) k ((2 ^ w) ^ k))
theorem wds_app (a : List Nat) (j : Nat) : wds a ++ [.int (j : Int)] = wds (a ++ [j]) := by simp [wds]
theorem r_all_rows : ∀ ds M Q E, sp_all_rows ds M Q E → b_all_rows sp_word_limit (En Q) (startD 6 ds) M := by
  rintro ds M Q E ⟨w, k, rfl, hw, hk, hb, h⟩
  have hB := Nat.two_pow_pos w
  refine ⟨by show 0 ≤ sizeLine; decide, by show 1 ≤ sizeLine; decide, fun p hp => ?_⟩
  refine ⟨by omega, by omega, ?_⟩
  refine ⟨fun i E M' => Ext M M' ∧ ∃ p x y z, M p = none ∧ M' p = some (.lst (rowsL (2 ^ w) i ((2 ^ w) ^ i))) ∧ E = [some (.int w), some (.int k), some (.ref p), x, y, z], ⟨Ext.new hp, p, none, none, none, hp, updM_same, rfl⟩, fun _ _ _ _ => trivial, ?_, ?_⟩
  · rintro i E M' d hd ⟨hx, p, x, y, z, hp, hl, rfl⟩
    obtain ⟨hi, rfl⟩ := rng_at hd
    have hi : i < k := by have : i < (k : Int).toNat := hi; omega
    have hle : (2 ^ w) ^ (i + 1) ≤ 1000000 := Nat.le_trans (Nat.pow_le_pow_right hB hi) hb
    have hB2 : 2 ^ w ≤ 1000000 := Nat.le_trans (Nat.le_of_eq (Nat.pow_one _).symm) (Nat.le_trans (Nat.pow_le_pow_right hB (Nat.succ_le_of_lt (Nat.succ_pos i))) hle)
    rw [Nat.pow_succ] at hle
    refine ⟨_, hl, fun q hq => ?_⟩
    have hq0 := hx.back hq
    have hqp : q ≠ p := fun z => by subst z; rw [hq] at hl; cases hl
    refine ⟨fun a acc M1 => Ext M' M1 ∧ M1 q = some (.lst acc) ∧ acc = rowsL (2 ^ w) (i + 1) (a * 2 ^ w), ⟨Ext.new hq, updM_same, by simp [rowsL]⟩, fun a acc M1 ⟨h1, _⟩ => h1 _ _ hl, ?_, ?_⟩
    · rintro a acc M1 d hd ⟨hx1, hq1, rfl⟩
      obtain ⟨ha, rfl⟩ := rowsL_get hd
      refine ⟨fun hc => absurd hc (by decide), fun _ => ?_⟩
      refine ⟨w, rfl, by omega, by omega, by omega, ?_⟩
      refine ⟨fun b acc M2 => Ext M' M2 ∧ M2 q = some (.lst acc) ∧ acc = rowsL (2 ^ w) (i + 1) (a * 2 ^ w + b), ⟨hx1, hq1, rfl⟩, fun _ _ _ _ => trivial, ?_, ?_⟩
      · rintro b acc M2 d hd ⟨hx2, hq2, rfl⟩
        obtain ⟨hb2, rfl⟩ := rng_at hd
        have hb2 : b < 2 ^ w := by have : b < ((2 ^ w : Nat) : Int).toNat := hb2; omega
        have hab : a * 2 ^ w + b < 1000000 := by
          have : (a + 1) * 2 ^ w ≤ (2 ^ w) ^ i * 2 ^ w := Nat.mul_le_mul_right _ ha
          rw [Nat.succ_mul] at this; omega
        refine ⟨fun _ => ⟨by show 1 ≤ sizeLine; decide, ?_, hq2, by rw [rowsL_len]; exact tolist (by omega), hx2.mut hq, updM_same, ?_⟩, fun hc => absurd hc (by decide)⟩
        · rw [List.length_map, rowD_len]
          exact Nat.le_of_lt (tolist (by show i + 1 ≤ _; omega))
        · show rowsL (2 ^ w) (i + 1) (a * 2 ^ w + b) ++ [.tup (wds (rowD (2 ^ w) i a) ++ [.int (0 + (b : Int))])] = rowsL (2 ^ w) (i + 1) (a * 2 ^ w + b + 1)
          rw [Int.zero_add, wds_app, rowsL_snoc, rowD_mul hb2]
      · rintro acc M2 ⟨hx2, hq2, rfl⟩
        refine ⟨hx2, hq2, ?_⟩
        rw [rng_len, Nat.succ_mul]
        congr 1
    · rintro acc M1 ⟨hx1, hq1, rfl⟩
      rw [rowsL_len, ← Nat.pow_succ] at hq1
      exact ⟨hx.trans hx1, q, _, _, _, hq0, hq1, rfl⟩
  · rintro E M' ⟨hx, p, x, y, z, hp, hl, rfl⟩
    rw [rng_len] at hl
    exact h p M' hp hx hl
def valB (B : Nat) (r : List Nat) : Nat := r.foldl (fun n x => n * B + x) 0
theorem valB_snoc (B : Nat) (r : List Nat) (x : Nat) : valB B (r ++ [x]) = valB B r * B + x := by unfold valB; rw [List.foldl_append]; rfl
theorem valB_row {B : Nat} (hB : 0 < B) : ∀ k i, i < B ^ k → valB B (rowD B k i) = i
  | 0, i, h => by rw [Nat.pow_zero] at h; show 0 = i; omega
  | k + 1, i, h => by
    have h1 : i / B < B ^ k := by rw [Nat.div_lt_iff_lt_mul hB, ← Nat.pow_succ]; exact h
    show valB B (rowD B k (i / B) ++ [i % B]) = i
    rw [valB_snoc, valB_row hB k _ h1]
    have := Nat.div_add_mod i B
    rw [Nat.mul_comm]; exact this
theorem rowD_lt {B : Nat} (hB : 0 < B) : ∀ k i, ∀ x ∈ rowD B k i, x < B
  | 0, i, x, h => by cases h
  | k + 1, i, x, h => by
    rcases List.mem_append.mp h with h | h
    · exact rowD_lt hB k _ x h
    · cases List.mem_singleton.mp h; exact Nat.mod_lt _ hB
def b_rows_rest (s_all_rows : DSp) : DS := dSeq (dAsg (dCall s_all_rows (dCons (dVar 2) (dCons (dVar 3) (dNil)))) (.nm 4)) (dSeq (dIf (dtOr (dtNot (dtE (dIs [.lst] (dVar 4)))) (dtB (dOp oNe (dL oLen (dCons (dVar 4) (dNil))) (dOp oShl (dC (.int 1)) (dOp oMul (dVar 2) (dVar 3)))))) (dRet (dC (.bl false))) (dNext)) (dSeq (dFor (dRng1 (dCons (dL oLen (dCons (dVar 4) (dNil))) (dNil))) (.nm 5) (dSeq (dAsg (dOp oIx (dVar 4) (dVar 5)) (.nm 6)) (dSeq (dIf (dtOr (dtNot (dtE (dIs [.tup] (dVar 6)))) (dtB (dOp oNe (dL oLen (dCons (dVar 6) (dNil))) (dVar 3)))) (dRet (dC (.bl false))) (dNext)) (dSeq (dAsg (dC (.int 0)) (.nm 7)) (dSeq (dFor (dIter (dVar 6)) (.nm 8) (dSeq (dIf (dtOr (dtNot (dtE (dIs [.int] (dVar 8)))) (dtOr (dtE (dIs [.bl] (dVar 8))) (dtNot (dtB (dChain oLe oLt (dC (.int 0)) (dVar 8) (dOp oShl (dC (.int 1)) (dVar 2))))))) (dRet (dC (.bl false))) (dNext)) (dAsg (dOp oAdd (dOp oMul (dVar 7) (dOp oShl (dC (.int 1)) (dVar 2))) (dVar 8)) (.nm 7)))) (dIf (dtB (dOp oNe (dVar 7) (dVar 5))) (dRet (dC (.bl false))) (dNext))))))) (dRet (dC (.bl true)))))
def sp_rows : DSp := fun ds M Q _ => ∃ (p c : Addr) (w : Nat), ds = [.ref p, .ref c, .int w] ∧ 1 ≤ w ∧ w ≤ 4 ∧ Dw p c M ∧ ∀ M', Dr c M M' → Q (.bl true) M'
theorem r_rows_rest {c p : Addr} {w k : Nat} {z : Int} {M : Mm} {Q : DQ} (hz : z = k) (h1 : 1 ≤ w) (h4 : w ≤ 4) (hwk : w * k ≤ 8) (hq : ∀ M', Ext M M' → Q (.bl true) M') :
    b_rows_rest sp_all_rows (En Q) [some (.ref p), some (.ref c), some (.int w), some (.int z), none, none, none, none, none] M := by
  subst hz
  have hk : k ≤ 8 := Nat.le_trans (Nat.le_mul_of_pos_left k h1) hwk
  have hB := Nat.two_pow_pos w
  have hpow : (2 ^ w) ^ k = 2 ^ (w * k) := (Nat.pow_mul 2 w k).symm
  have hle : (2 ^ w) ^ k ≤ 256 := by rw [hpow]; exact Nat.pow_le_pow_right (n := 2) (by decide) hwk
  have hB4 : 2 ^ w ≤ 16 := Nat.pow_le_pow_right (n := 2) (by decide) h4
  refine ⟨w, k, rfl, by omega, by omega, by omega, fun q M1 hq0 hx hl => ?_⟩
  refine .inl ⟨_, hl, ?_⟩
  walk_at "if"
  refine .inl ⟨_, hl, ?_⟩
  have hwk0 : (0 : Int) ≤ (w : Int) * k := Int.mul_nonneg (by omega) (by omega)
  have hwk8 : (w : Int) * k ≤ 8 := by exact_mod_cast hwk
  have elen : (((rowsL (2 ^ w) k ((2 ^ w) ^ k)).length : Nat) : Int) = 1 * 2 ^ ((w : Int) * k).toNat := by
    rw [rowsL_len, Int.one_mul]
    rw [show ((w : Int) * k).toNat = w * k by rw [← Int.natCast_mul]; rfl, hpow]
    norm_cast
  refine ⟨.inl ⟨by omega, by omega⟩, ⟨hwk0, by omega, by decide⟩, fun hc => absurd hc (by rw [elen]; simp), fun _ => ?_⟩
  refine .inl ⟨_, hl, ?_⟩
  rw [rowsL_len]
  refine ⟨by omega, by omega, ?_⟩
  refine ⟨fun i E M' => M' = M1 ∧ ∃ x y z u, E = [some (.ref p), some (.ref c), some (.int w), some (.int k), some (.ref q), x, y, z, u], ⟨rfl, none, none, none, none, rfl⟩, fun _ _ _ _ => trivial, ?_, ?_⟩
  · rintro i E M' d hd ⟨rfl, x, y, z, u, rfl⟩
    obtain ⟨hi, rfl⟩ := rng_at hd
    have hi : i < (2 ^ w) ^ k := by have : i < (((2 ^ w) ^ k : Nat) : Int).toNat := hi; omega
    rw [Int.zero_add]
    refine .inl ⟨_, _, _, hl, rfl, atI_nat (rowsL_at hi), ?_⟩
    walk_at "if"
    refine ⟨fun hc => absurd hc (by rw [List.length_map, rowD_len]; simp), fun _ => ?_⟩
    refine ⟨fun j E M2 => M2 = M' ∧ ∃ (v : Int) (y : Option D), v = (valB (2 ^ w) ((rowD (2 ^ w) k i).take j) : Nat) ∧ E = [some (.ref p), some (.ref c), some (.int w), some (.int k), some (.ref q), some (.int (i : Int)), some (.tup (wds (rowD (2 ^ w) k i))), some (.int v), y], ⟨rfl, 0, u, rfl, rfl⟩, fun _ _ _ _ => trivial, ?_, ?_⟩
    · rintro j E M2 d hd ⟨rfl, v, y, hv, rfl⟩
      rw [List.getElem?_map] at hd
      obtain ⟨n, hn, rfl⟩ := Option.map_eq_some_iff.mp hd
      have hlt := rowD_lt hB k i n (mem_at hn)
      have hpc : (1 : Int) * 2 ^ (w : Int).toNat = ((2 ^ w : Nat) : Int) := pow_cast w
      walk_at "if"
      walk_at "if"
      have hcp : CPow 1 (w : Int) := cpow w (by omega) (by decide)
      refine ⟨fun _ => ⟨hcp, ?_, ?_⟩, fun hc => absurd (of_decide_eq_false hc) (by omega)⟩
      · intro hc
        have hc : (!decide ((n : Int) < 1 * 2 ^ (w : Int).toNat)) = true := hc
        rw [hpc, decide_eq_true (show (n : Int) < ((2 ^ w : Nat) : Int) by omega)] at hc
        cases hc
      · intro _
        refine ⟨hcp, .inr ⟨?_, ?_⟩, rfl, _, _, ?_, rfl⟩
        · show -(2 ^ 64) < (1 : Int) * 2 ^ (w : Int).toNat
          rw [hpc]; omega
        · show (1 : Int) * 2 ^ (w : Int).toNat < 2 ^ 64
          rw [hpc]; omega
        · show v * (1 * 2 ^ (w : Int).toNat) + (n : Int) = _
          rw [take_snoc hn, valB_snoc, hpc, hv]
          push_cast
          rfl
    · rintro E M2 ⟨rfl, v, y, hv, rfl⟩
      have hv : v = (valB (2 ^ w) ((rowD (2 ^ w) k i).take (wds (rowD (2 ^ w) k i)).length) : Nat) := hv
      rw [List.length_map, List.take_length, valB_row hB k i hi] at hv
      subst hv
      exact ⟨fun hc => absurd hc (by show ¬ (!decide ((i : Int) = i)) = true; simp), fun _ => ⟨rfl, _, _, _, _, rfl⟩⟩
  · rintro E M' ⟨rfl, x, y, z, u, rfl⟩
    exact hq _ hx
theorem r__law_rows : ∀ ds M Q E, sp_rows ds M Q E → b__law_rows sp_take sp_all_rows (En Q) (startD 9 ds) M := by
  rintro ds M Q E ⟨p, c, w, rfl, h1, h4, dw, h⟩
  have e4 : (4 : Int) / w + 1 = ((4 / w + 1 : Nat) : Int) := by push_cast; rfl
  refine ⟨⟨by omega, by omega⟩, p, c, 4 / w + 1, ?_, Nat.succ_pos _, dw, fun r hr M1 d1 => ?_⟩
  · show [_, _, D.int (4 / (w : Int) + 1)] = _
    rw [e4]
  refine ⟨p, c, 16, rfl, by decide, dw.go d1, fun r2 hr2 M2 d2 => ⟨fun hb => ?_, fun hb => ?_⟩⟩
  · refine ⟨⟨by omega, by omega⟩, ?_⟩
    have e8 : (8 : Int) / w = ((8 / w : Nat) : Int) := by push_cast; rfl
    refine r_rows_rest (k := min (8 / w) 4) ?_ h1 h4 ?_ fun M' e => h M' ((d1.trans d2).trans (.ofExt e))
    · show (if (8 : Int) / w < 4 then (8 : Int) / w else 4) = _
      rw [e8]; split <;> omega
    · have h8 : w * (8 / w) ≤ 8 := Nat.mul_div_le 8 w
      have : w * min (8 / w) 4 ≤ w * (8 / w) := Nat.mul_le_mul_left w (Nat.min_le_left _ _)
      omega
  · refine r_rows_rest (k := r) rfl h1 h4 ?_ fun M' e => h M' ((d1.trans d2).trans (.ofExt e))
    have h8 : w * (4 / w) ≤ 4 := Nat.mul_div_le 4 w
    have : w * r ≤ w * (4 / w) := Nat.mul_le_mul_left w (by omega)
    omega
end Rd

set_option Elab.async false
set_option linter.all false
set_option autoImplicit false
set_option maxRecDepth 100000
set_option maxHeartbeats 4000000
/-! readings: texts -/
namespace Rd
open PySem PySem.Spec PyProof.Rows L2 DH Bd
local macro_rules | `(tactic| walk_at "if") => `(tactic| first | (refine ⟨fun _ => ?_, fun hc => absurd hc (by decide)⟩) | (refine ⟨fun hc => absurd hc (by decide), fun _ => ?_⟩))
def goodL (g : Bool) : List Nat → Bool
  | [] => g
  | c :: r => g && low c && r.all fun x => low x || dig x
theorem goodL_snoc (g : Bool) (l : List Nat) (c : Nat) : goodL g (l ++ [c]) = (goodL g l && (low c || (decide (0 < l.length) && dig c))) := by
  cases l with
  | nil => simp [goodL]
  | cons x r => simp [goodL, Bool.and_assoc]
theorem good_name (s : Str) : goodL (decide ((1 : Int) ≤ s.length) && decide ((s.length : Int) ≤ 6)) s.cps.toList = isNameS s := by
  unfold isNameS
  rw [← str_len s]
  cases s.cps.toList with
  | nil => rfl
  | cons c r =>
    simp only [goodL, nameL]
    congr 2
    rw [Bool.eq_iff_iff]; simp; omega
def signsS : Str := "abcmnxyz0189A_ -("
theorem op_sign : ∀ o : Op, (o.nm.cps.toList.all fun c => decide (c ∈ signsS.cps.toList)) = false := fun o => by cases o <;> decide +kernel
def fourS : List Str := ["not", "neg", "shr", "pick"]
def constS : List Str := ["not", "neg", "shr", "pick", "pic", "nota", "add1", "a", "abcdef", "abcdefg", "", "A", "z9"]
theorem const_ok : ∀ t ∈ constS, t.length ≤ 8 ∧ (isNameS t && !isOpS t) = (isNameS t && !decide (t ∈ fourS)) := by decide +kernel
theorem sign_ok {t : Str} (h : ∀ c ∈ t.cps.toList, c ∈ signsS.cps.toList) : (isNameS t && !isOpS t) = (isNameS t && !decide (t ∈ fourS)) := by
  have h1 : ∀ o : Op, t ≠ o.nm := fun o e => by
    have := op_sign o
    rw [← e, List.all_eq_true.mpr fun c hc => decide_eq_true (h c hc)] at this
    cases this
  have h2 : opOf t = none := by
    cases e : opOf t with
    | none => rfl
    | some o => exact absurd (opOf_nm e) (h1 o)
  have h3 : ¬ t ∈ fourS := by
    intro hm
    simp only [fourS, List.mem_cons, List.not_mem_nil, or_false] at hm
    rcases hm with rfl | rfl | rfl | rfl
    · exact h1 .not rfl
    · exact h1 .neg rfl
    · exact h1 .shr rfl
    · exact h1 .pick rfl
  unfold isOpS
  rw [h2, decide_eq_false h3]; rfl
def b_strings_rest (s__law_truth s_is_name s_is_value_name : DSp) : DS := dSeq (dFor (dRng1 (dCons (dL oLen (dCons (dVar 3) (dNil))) (dNil))) (.nm 4) (dIf (dtB (dOp (oIn true) (dOp oIx (dVar 3) (dVar 4)) (dC (.str "abcdefghijklmnopqrstuvwxyz")))) (dIf (dtOr (dtB (dOp oEq (dVar 4) (dC (.int 0)))) (dtB (dOp (oIn true) (dOp oIx (dVar 3) (dVar 4)) (dC (.str "0123456789"))))) (dAsg (dC (.bl false)) (.nm 6)) (dNext)) (dNext))) (dSeq (dIf (dtNot (dtE (dCall s__law_truth (dCons (dCall s_is_name (dCons (dVar 3) (dNil))) (dCons (dVar 6) (dNil)))))) (dRet (dC (.bl false))) (dNext)) (dRet (dCall s__law_truth (dCons (dCall s_is_value_name (dCons (dVar 3) (dNil))) (dCons (dAndV (dVar 6) (dOp (oIn true) (dVar 3) (dLst (dCons (dC (.str "not")) (dCons (dC (.str "neg")) (dCons (dC (.str "shr")) (dCons (dC (.str "pick")) (dNil)))))))) (dNil))))))
theorem r_strings_rest {p c q : Addr} {t : Str} {g : Bool} {y : Option D} {M : Mm} {Q : DQ} (hl : t.length ≤ 8) (ht : (isNameS t && !isOpS t) = (isNameS t && !decide (t ∈ fourS))) (hg : g = (decide ((1 : Int) ≤ t.length) && decide ((t.length : Int) ≤ 6))) (hq : ∀ M', Ext M M' → Q (.bl true) M') :
    b_strings_rest sp_truth sp_is_name sp_is_value_name (En Q) [some (.ref p), some (.ref c), some (.str signsS), some (.str t), y, some (.ref q), some (.bl g)] M := by
  have hll : t.length ≤ sizeLine := small_line (by omega)
  refine ⟨hll, by omega, by omega, ?_⟩
  refine ⟨fun i E M' => M' = M ∧ ∃ y, E = [some (.ref p), some (.ref c), some (.str signsS), some (.str t), y, some (.ref q), some (.bl (goodL g (t.cps.toList.take i)))], ⟨rfl, y, rfl⟩, fun _ _ _ _ => trivial, ?_, ?_⟩
  · rintro i E M' d hd ⟨rfl, y, rfl⟩
    obtain ⟨hi, rfl⟩ := rng_at hd
    have hi : i < t.cps.toList.length := by rw [str_len]; have : i < (t.length : Int).toNat := hi; omega
    rw [Int.zero_add]
    have hat : t.cps.toList[i]? = some t.cps.toList[i] := List.getElem?_eq_getElem hi
    generalize t.cps.toList[i] = ch at hat
    have hlen : (t.cps.toList.take i).length = i := by rw [List.length_take]; omega
    have stp : ∀ b : Bool, (low ch || (decide (0 < i) && dig ch)) = b → goodL g (t.cps.toList.take (i + 1)) = (goodL g (t.cps.toList.take i) && b) := fun b e => by
      rw [take_snoc hat, goodL_snoc, hlen, e]
    refine ⟨hll, ch, atI_nat hat, ch, rfl, fun hb => ?_, fun hb => ?_⟩
    · have hb : low ch = false := by simpa [low, lowers] using hb
      refine ⟨fun h0 => ?_, fun h0 => ⟨hll, ch, atI_nat hat, ch, rfl, fun h5 => ?_, fun h5 => ?_⟩⟩
      · have h0 : i = 0 := by have := of_decide_eq_true h0; omega
        subst h0
        walk_at "if"
        refine ⟨rfl, some (.int 0), ?_⟩
        rw [stp false (by rw [hb]; rfl), Bool.and_false]; rfl
      · have h5 : dig ch = false := by simpa [dig, digits] using h5
        refine ⟨rfl, some (.int i), ?_⟩
        rw [stp false (by rw [hb, h5, Bool.and_false]; rfl), Bool.and_false]; rfl
      · have h5 : dig ch = true := by simpa [dig, digits] using h5
        have h0 : 0 < i := by have := of_decide_eq_false h0; omega
        refine ⟨rfl, some (.int i), ?_⟩
        rw [stp true (by rw [hb, h5, decide_eq_true h0]; rfl), Bool.and_true]; rfl
    · have hb : low ch = true := by simpa [low, lowers] using hb
      refine ⟨rfl, some (.int i), ?_⟩
      rw [stp true (by rw [hb]; rfl), Bool.and_true]; rfl
  · rintro E M' ⟨rfl, y, rfl⟩
    rw [rng_len]
    have e : ((t.length : Int)).toNat = t.cps.toList.length := by rw [str_len]; omega
    rw [e, List.take_length, hg, good_name]
    refine ⟨t, rfl, by omega, isNameS t, isNameS t, rfl, ?_⟩
    refine ⟨fun hc => absurd hc (by simp), fun _ => ?_⟩
    refine ⟨t, rfl, by omega, fun hn => ?_, fun hn => ?_⟩
    · refine ⟨by show 4 ≤ sizeLine; decide, fun q2 hq2 => ?_⟩
      refine .inl ⟨_, updM_same, rfl, rfl, _, _, rfl, ?_⟩
      refine qb (hq _ (Ext.new hq2)) ?_
      refine decide_eq_true ?_
      show (isNameS t && !isOpS t) = !(inD (.str t) (fourS.map .str))
      rw [ht, hn, inD_strs, Bool.true_and]
    · refine ⟨_, _, rfl, ?_⟩
      refine qb (hq _ (Ext.refl _)) ?_
      rw [hn]; rfl
def sp_strings : DSp := fun ds M Q _ => ∃ (p c : Addr), ds = [.ref p, .ref c] ∧ Dw p c M ∧ ∀ M', Dr c M M' → Q (.bl true) M'
theorem three_at : ∀ r : Nat, r < 3 → ∃ m : Nat, ([.int 12, .int 12, .int 17] : List D)[r]? = some (.int m) ∧ 0 < m ∧ m ≤ 17
  | 0, _ => ⟨12, rfl, by decide, by decide⟩
  | 1, _ => ⟨12, rfl, by decide, by decide⟩
  | 2, _ => ⟨17, rfl, by decide, by decide⟩
theorem r__law_strings : ∀ ds M Q E, sp_strings ds M Q E → b__law_strings sp_take sp_truth sp_is_name sp_is_value_name (En Q) (startD 7 ds) M := by
  rintro ds M Q E ⟨p, c, rfl, dw, h⟩
  refine ⟨p, c, 9, rfl, by decide, dw, fun n hn M1 d1 => ⟨by omega, by omega, ?_⟩⟩
  refine ⟨fun i E M' => Dr c M M' ∧ ∃ (s : Str) (x y z : Option D), s.length = i ∧ (∀ ch ∈ s.cps.toList, ch ∈ signsS.cps.toList) ∧ E = [some (.ref p), some (.ref c), some (.str signsS), some (.str s), x, y, z], ⟨d1, "", none, none, none, rfl, (fun _ h => by cases h), rfl⟩, fun _ _ _ _ => trivial, ?_, ?_⟩
  · rintro i E M' d hd ⟨hx, s, x, y, z, hs, hc, rfl⟩
    obtain ⟨hi, rfl⟩ := rng_at hd
    have hi : i < n := by have : i < (n : Int).toNat := hi; omega
    refine ⟨by show 3 ≤ sizeLine; decide, fun q hq => ?_⟩
    have hqc := (dw.go hx).cne hq
    have d2 := hx.trans (Dr.new (c := c) (o := .lst [.int 12, .int 12, .int 17]) hq)
    refine ⟨p, c, 3, rfl, by decide, dw.go d2, fun r hr M2 d3 => ?_⟩
    obtain ⟨m, hm, hm0, hm17⟩ := three_at r hr
    have hq2 : M2 q = some (.lst [.int 12, .int 12, .int 17]) := d3.ex _ _ hqc updM_same
    refine .inl ⟨_, _, _, hq2, rfl, atI_nat hm, ?_⟩
    refine ⟨p, c, m, rfl, hm0, dw.go (d2.trans d3), fun r2 hr2 M3 d4 => ?_⟩
    have hlt : r2 < signsS.cps.toList.length := Nat.lt_of_lt_of_le hr2 (Nat.le_trans hm17 (by decide))
    have hat : signsS.cps.toList[r2]? = some signsS.cps.toList[r2] := List.getElem?_eq_getElem hlt
    refine ⟨by decide, _, atI_nat hat, ?_, (d2.trans d3).trans d4, _, _, _, _, ?_, ?_, rfl⟩
    · rw [hs]
      exact small_line (by show i + 1 ≤ _; omega)
    · rw [← str_len, show (s ++ (⟨#[signsS.cps.toList[r2]]⟩ : Str)).cps = s.cps ++ #[signsS.cps.toList[r2]] from rfl, Array.toList_append, List.length_append, str_len, hs]; rfl
    · intro ch hch
      rw [show (s ++ (⟨#[signsS.cps.toList[r2]]⟩ : Str)).cps = s.cps ++ #[signsS.cps.toList[r2]] from rfl, Array.toList_append] at hch
      rcases List.mem_append.mp hch with hch | hch
      · exact hc ch hch
      · have : ch = signsS.cps.toList[r2] := by simpa using hch
        rw [this]; exact List.getElem_mem hlt
  · rintro E M' ⟨hx, s, x, y, z, hs, hc, rfl⟩
    rw [rng_len] at hs
    refine ⟨by show 14 ≤ sizeLine; decide, fun q hq => ?_⟩
    have hqc := (dw.go hx).cne hq
    have hall : ∀ t ∈ s :: constS, t.length ≤ 8 ∧ (isNameS t && !isOpS t) = (isNameS t && !decide (t ∈ fourS)) := fun t ht => by
      rcases List.mem_cons.mp ht with rfl | ht
      · exact ⟨by rw [hs]; show (n : Int).toNat ≤ 8; omega, sign_ok hc⟩
      · exact const_ok t ht
    have hw : updM M' q (.lst ((s :: constS).map .str)) q = some (.lst ((s :: constS).map .str)) := updM_same
    have d2 := hx.trans (Dr.new (c := c) (o := .lst ((s :: constS).map .str)) hq)
    refine .inl ⟨_, hw, p, c, 14, rfl, by decide, dw.go d2, fun r1 hr1 M2 d3 => ?_⟩
    refine ⟨p, c, 2, rfl, by decide, dw.go (d2.trans d3), fun r2 hr2 M3 d4 => ?_⟩
    have hq3 : M3 q = some (.lst ((s :: constS).map .str)) := d4.ex _ _ hqc (d3.ex _ _ hqc hw)
    have hlt : r1 * r2 < (s :: constS).length := by
      show r1 * r2 < 14
      have : r1 * r2 ≤ r1 * 1 := Nat.mul_le_mul_left r1 (by omega)
      omega
    have hm := hall _ (List.getElem_mem hlt)
    have hat : ((s :: constS).map D.str)[r1 * r2]? = some (.str (s :: constS)[r1 * r2]) := by rw [List.getElem?_map, List.getElem?_eq_getElem hlt]; rfl
    generalize (s :: constS)[r1 * r2] = t at hm hat
    refine ⟨.inl ⟨by omega, by omega⟩, .inl ⟨_, _, _, hq3, rfl, (by rw [← Int.natCast_mul]; exact atI_nat hat), ?_⟩⟩
    have d5 := (d2.trans d3).trans d4
    have fin : ∀ M', Ext M3 M' → Q (.bl true) M' := fun M' e => h M' (d5.trans (.ofExt e))
    refine ⟨small_line (by have := hm.1; omega), fun hb => ?_, fun hb => ?_⟩
    · exact r_strings_rest hm.1 hm.2 (by have hb : decide ((1 : Int) ≤ t.length) = true := hb; rw [hb, Bool.true_and]) fin
    · exact r_strings_rest hm.1 hm.2 (by have hb : decide ((1 : Int) ≤ t.length) = false := hb; rw [hb, Bool.false_and]) fin
end Rd

set_option Elab.async false
set_option linter.all false
set_option autoImplicit false
set_option maxRecDepth 100000
set_option maxHeartbeats 4000000
/-! readings: shapes the law draws -/
namespace Rd
open PySem PySem.Spec PyProof.Rows L2 DH Bd
local macro_rules | `(tactic| walk_at "if") => `(tactic| first | (refine ⟨fun _ => ?_, fun hc => absurd hc (by decide)⟩) | (refine ⟨fun hc => absurd hc (by decide), fun _ => ?_⟩))
theorem all_bool {p q : D → Bool} : ∀ {t : List D}, (∀ d ∈ t, p d = q d) → t.all p = t.all q
  | [], _ => rfl
  | d :: t, h => by rw [List.all_cons, List.all_cons, h d (by simp), all_bool fun e he => h e (List.mem_cons_of_mem _ he)]
theorem depths_all {k : Nat} : ∀ t : List D, t.all (fun d => decide (depthD d ≤ k)) = decide (depthDs t ≤ k)
  | [] => by simp [depthDs]
  | d :: t => by
    rw [List.all_cons, depths_all t, Bool.eq_iff_iff]
    simp only [Bool.and_eq_true, decide_eq_true_eq, depthDs]
    exact ⟨fun h => decide_eq_true (Nat.max_le.mpr h), fun h => Nat.max_le.mp (of_decide_eq_true h)⟩
theorem shaped_wf {w : Nat} {nms : List Str} : ∀ (k : Nat) (d : D), wfD w nms d = true → shapedD w nms k d = decide (depthD d ≤ k)
  | k, .int i, h => by
    simp only [wfD] at h
    cases k <;> simp only [shapedD, h, depthD] <;> simp
  | k, .str s, h => by
    simp only [wfD] at h
    cases k <;> simp only [shapedD, h, depthD] <;> simp
  | 0, .tup ds, h => by
    obtain ⟨o, t, rfl, _⟩ := op_inv h
    rw [depthD_tup]; simp [shapedD]
  | k + 1, .tup ds, h => by
    obtain ⟨o, t, rfl, hl, ht, _⟩ := op_inv h
    simp only [shapedD, opOf_of, hl, beq_self_eq_true, Bool.true_and]
    rw [all_bool (q := fun d => decide (depthD d ≤ k)) fun d hd => shaped_wf k d (ht d hd), depths_all, depthD_tup]
    rw [Bool.eq_iff_iff]
    show _ ↔ decide (depthDs t + 1 ≤ k + 1) = true
    simp
  | k, .non, h => by simp [wfD] at h
  | k, .bl _, h => by simp [wfD] at h
  | k, .ref _, h => by simp [wfD] at h
  | k, .ty _, h => by simp [wfD] at h
  | k, .kd _, h => by simp [wfD] at h
  | k, .fl _, h => by simp [wfD] at h
mutual
theorem wf_tree {w : Nat} {nms : List Str} : ∀ d : D, wfD w nms d = true → tree d = true
  | .int _, _ => by simp [tree]
  | .str _, _ => by simp [tree]
  | .tup (.str s :: t), h => by
    simp only [wfD] at h
    split at h
    · have := wf_trees t (Bool.and_eq_true_iff.mp h).2
      simp only [tree, trees, this, Bool.true_and]
    · cases h
  | .tup [], h => by simp [wfD] at h
  | .tup (.int _ :: _), h => by simp [wfD] at h
  | .tup (.tup _ :: _), h => by simp [wfD] at h
  | .tup (.non :: _), h => by simp [wfD] at h
  | .tup (.bl _ :: _), h => by simp [wfD] at h
  | .tup (.ref _ :: _), h => by simp [wfD] at h
  | .tup (.ty _ :: _), h => by simp [wfD] at h
  | .tup (.kd _ :: _), h => by simp [wfD] at h
  | .tup (.fl _ :: _), h => by simp [wfD] at h
  | .non, h => by simp [wfD] at h
  | .bl _, h => by simp [wfD] at h
  | .ref _, h => by simp [wfD] at h
  | .ty _, h => by simp [wfD] at h
  | .kd _, h => by simp [wfD] at h
  | .fl _, h => by simp [wfD] at h
theorem wf_trees {w : Nat} {nms : List Str} : ∀ t : List D, wfDs w nms t = true → trees t = true
  | [], _ => by simp [trees]
  | d :: t, h => by
    simp only [wfDs, Bool.and_eq_true] at h
    simp only [trees, wf_tree d h.1, wf_trees t h.2, Bool.and_self]
end
theorem form_wf {w : Nat} {nms : List Str} {most : Int} {d : D} (h : wfD w nms d = true) : formD w nms most d = (decide ((sizeD d : Int) ≤ most) && decide ((depthD d : Int) ≤ 6)) := by
  unfold formD
  rw [shaped_wf 6 d h, Bool.and_comm]
  congr 1
  rw [Bool.eq_iff_iff]; simp
  omega
def sp_valid : DSp := fun ds M Q _ => ∃ (d : D) (w : Nat) (q : Addr) (nms : List Str), ds = [d, .int w, .ref q] ∧ w ≤ 1000 ∧ wfD w nms d = true ∧ depthD d < 8 ∧ M q = some (.lst (nms.map .str)) ∧ RetV M Q (.bl true)
def b_valid_rest (s__law_truth s_is_formula : DSp) : DS := dIf (dtNot (dtE (dCall s__law_truth (dCons (dCall s_is_formula (dCons (dVar 0) (dCons (dVar 1) (dCons (dL oList (dCons (dVar 2) (dNil))) (dCons (dVar 4) (dNil)))))) (dCons (dVar 5) (dNil)))))) (dRet (dC (.bl false))) (dNext)
theorem r_valid_rest {d : D} {w : Nat} {q : Addr} {nms : List Str} {z m : Int} {g : Bool} {M : Mm} {D : DEnds} (hw : w ≤ 1000) (hd : wfD w nms d = true) (hq : M q = some (.lst (nms.map .str))) (hg : g = formD w nms m d) (h : ∀ M', Ext M M' → D.nx [some d, some (.int w), some (.ref q), some (.int z), some (.int m), some (.bl g)] M') :
    b_valid_rest sp_truth sp_is_formula D [some d, some (.int w), some (.ref q), some (.int z), some (.int m), some (.bl g)] M := by
  subst hg
  refine ⟨_, hq, fun p hp => ?_⟩
  refine ⟨d, .ref p, w, m, nms, rfl, .inr ⟨p, rfl, updM_same⟩, wf_tree d hd, hw, _, _, rfl, ?_⟩
  exact ⟨fun hc => absurd hc (by simp), fun _ => h _ (Ext.new hp)⟩
theorem r__law_valid : ∀ ds M Q E, sp_valid ds M Q E → b__law_valid (sp_lsize 8) (sp_ldepth 8) sp_truth sp_is_formula (En Q) (startD 6 ds) M := by
  rintro ds M Q E ⟨d, w, q, nms, rfl, hw, hd, hn, hq, h⟩
  refine ⟨d, w, nms, rfl, hd, hn, fun M1 e1 => ?_⟩
  refine ⟨by show 3 ≤ sizeLine; decide, fun r hr => ?_⟩
  have e2 := e1.trans (Ext.new (o := .lst [.int ((sizeD d : Int) - 1), .int (sizeD d), .int ((sizeD d : Int) + 1)]) hr)
  refine ⟨_, updM_same, ?_⟩
  refine ⟨fun i E M' => Ext M M' ∧ M' r = some (.lst [.int ((sizeD d : Int) - 1), .int (sizeD d), .int ((sizeD d : Int) + 1)]) ∧ ∃ x y, E = [some d, some (.int w), some (.ref q), some (.int (sizeD d)), x, y], ⟨e2, updM_same, none, none, rfl⟩, fun i E M' ⟨_, h2, _⟩ => h2, ?_, ?_⟩
  · rintro i E M' v hv ⟨hx, hr2, x, y, rfl⟩
    obtain ⟨m, rfl⟩ : ∃ m : Int, v = .int m := by
      have := mem_at hv
      simp only [List.mem_cons, List.not_mem_nil, or_false] at this
      rcases this with rfl | rfl | rfl <;> exact ⟨_, rfl⟩
    refine ⟨fun hb => ⟨d, w, nms, rfl, hd, hn, fun M2 e3 => ?_⟩, fun hb => ?_⟩
    · refine r_valid_rest hw hd ((hx.trans e3) _ _ hq) ?_ fun M3 e4 => ⟨(hx.trans e3).trans e4, e4 _ _ (e3 _ _ hr2), _, _, rfl⟩
      rw [form_wf hd, hb]; rfl
    · refine r_valid_rest hw hd (hx _ _ hq) ?_ fun M3 e4 => ⟨hx.trans e4, e4 _ _ hr2, _, _, rfl⟩
      rw [form_wf hd, hb]; rfl
  · rintro E M' ⟨hx, hr2, x, y, rfl⟩
    refine ⟨_, hx _ _ hq, ?_⟩
    refine ⟨d, .tup (nms.map .str), w, 40, nms, rfl, .inl rfl, wf_tree d hd, hw, ?_⟩
    refine ⟨fun hb => ⟨d, w, nms, rfl, hd, hn, fun M2 e3 => ⟨_, _, rfl, ?_⟩⟩, fun hb => ⟨_, _, rfl, ?_⟩⟩
    · refine qb (h M2 (hx.trans e3)) (decide_eq_true ?_)
      rw [form_wf hd, hb]; rfl
    · refine qb (h M' hx) (decide_eq_true ?_)
      rw [form_wf hd, hb]; rfl
/-! ### spoilt formulas -/
def BadD (w : Nat) (nms : List Str) (d : D) : Prop := tree d = true ∧ ∀ k, shapedD w nms k d = false
def oddL (w : Nat) : List D := [.int (1 * 2 ^ (w : Int).toNat), .int (-1), .str "Q", .str "add", .tup [], .tup [.str "not", .int 0, .int 0], .tup [.str "add", .int 0], .tup [.str "pick", .int 0, .int 0], .tup [.str "nand", .int 0, .int 0], .tup [.int 0, .int 0], .tup [.tup [], .int 0]]
theorem odd_bad {w : Nat} {nms : List Str} (h1 : ¬ ("Q" : Str) ∈ nms) (h2 : ¬ ("add" : Str) ∈ nms) : ∀ d ∈ oddL w, BadD w nms d := by
  intro d hd
  simp only [oddL, List.mem_cons, List.not_mem_nil, or_false] at hd
  rcases hd with rfl | rfl | rfl | rfl | rfl | rfl | rfl | rfl | rfl | rfl | rfl
  · refine ⟨by simp [tree], fun k => ?_⟩
    rw [pow_cast]
    cases k <;> simp [shapedD]
  · exact ⟨by simp [tree], fun k => by cases k <;> simp [shapedD]⟩
  · exact ⟨by simp [tree], fun k => by cases k <;> simp only [shapedD] <;> exact decide_eq_false h1⟩
  · exact ⟨by simp [tree], fun k => by cases k <;> simp only [shapedD] <;> exact decide_eq_false h2⟩
  · exact ⟨by simp [tree, trees], fun k => by cases k <;> simp [shapedD]⟩
  · exact ⟨by simp [tree, trees], fun k => by
      cases k with
      | zero => simp [shapedD]
      | succ k => simp only [shapedD, show opOf "not" = some .not from opOf_of .not]; rfl⟩
  · exact ⟨by simp [tree, trees], fun k => by
      cases k with
      | zero => simp [shapedD]
      | succ k => simp only [shapedD, show opOf "add" = some .add from opOf_of .add]; rfl⟩
  · exact ⟨by simp [tree, trees], fun k => by
      cases k with
      | zero => simp [shapedD]
      | succ k => simp only [shapedD, show opOf "pick" = some .pick from opOf_of .pick]; rfl⟩
  · exact ⟨by simp [tree, trees], fun k => by
      cases k with
      | zero => simp [shapedD]
      | succ k => simp only [shapedD, show opOf "nand" = none from by decide +kernel]⟩
  · exact ⟨by simp [tree, trees], fun k => by cases k <;> simp [shapedD]⟩
  · exact ⟨by simp [tree, trees], fun k => by cases k <;> simp [shapedD]⟩
def sp_spoilt : DSp := fun ds M Q _ => ∃ (p c : Addr) (d : D) (w : Nat) (nms : List Str), ds = [.ref p, .ref c, d, .int w] ∧ w ≤ 1000 ∧ Dw p c M ∧ wfD w nms d = true ∧ ¬ ("Q" : Str) ∈ nms ∧ ¬ ("add" : Str) ∈ nms ∧ ∀ e, BadD w nms e → ∀ M', Dr c M M' → Q e M'
theorem r__law_spoilt : ∀ ds M Q E, sp_spoilt ds M Q E → b__law_spoilt sp_take (En Q) (startD 6 ds) M := by
  rintro ds M Q E ⟨p, c, d, w, nms, rfl, hw, dw, hd, h1, h2, h⟩
  refine ⟨cpow w hw (by decide), by show 0 ≤ sizeLine; decide, by show 3 ≤ sizeLine; decide, by show 2 ≤ sizeLine; decide, by show 3 ≤ sizeLine; decide, by show 3 ≤ sizeLine; decide, by show 2 ≤ sizeLine; decide, by show 0 ≤ sizeLine; decide, by show 2 ≤ sizeLine; decide, by show 11 ≤ sizeLine; decide, fun q hq => ?_⟩
  have hqc := dw.cne hq
  have hw1 : updM M q (.lst (oddL w)) q = some (.lst (oddL w)) := updM_same
  have d1 : Dr c M (updM M q (.lst (oddL w))) := .new hq
  refine .inl ⟨_, hw1, p, c, 11, rfl, by decide, dw.go d1, fun r hr M2 d2 => ?_⟩
  have hlt : r < (oddL w).length := hr
  have hbad := odd_bad h1 h2 _ (List.getElem_mem hlt)
  have hat : (oddL w)[r]? = some (oddL w)[r] := List.getElem?_eq_getElem hlt
  generalize (oddL w)[r] = e at hbad hat
  refine .inl ⟨_, _, _, d2.ex _ _ hqc hw1, rfl, atI_nat hat, ?_⟩
  have d3 := d1.trans d2
  cases d with
  | int i =>
    walk_at "if"
    exact h e hbad _ d3
  | str s =>
    walk_at "if"
    exact h e hbad _ d3
  | tup ds =>
    obtain ⟨o, t, rfl, hl, ht, hev⟩ := op_inv hd
    have har := ar3 o
    walk_at "if"
    have ec : cutL D (.str o.nm :: t) (some 2) none = t.drop 1 := by
      unfold cutL
      match t, hl with
      | [], hl => rw [← hl] at har; exact absurd har.2 (by decide)
      | [x], _ => rfl
      | [x, y], _ => rfl
      | [x, y, z], _ => rfl
      | x :: y :: z :: u :: r, hl => exact absurd har.1 (by rw [← hl]; simp)
    refine ⟨_, at0, by show 2 ≤ sizeLine; decide, ?_⟩
    have ht2 : ∀ x ∈ t.drop 1, tree x = true := fun x hx => wf_tree x (ht x (List.mem_of_mem_drop hx))
    have hb2 : BadD w nms (.tup ([.str o.nm, e] ++ t.drop 1)) := by
      refine ⟨?_, fun k => ?_⟩
      · have : ∀ l : List D, (∀ x ∈ l, tree x = true) → trees l = true := fun l => by
          induction l with
          | nil => intro _; simp [trees]
          | cons a l ih => intro h; simp only [trees, h a (by simp), ih fun x hx => h x (by simp [hx]), Bool.and_self]
        show tree (.tup (.str o.nm :: e :: t.drop 1)) = true
        simp only [tree, trees, hbad.1, this _ ht2, Bool.and_self]
      · show shapedD w nms k (.tup (.str o.nm :: e :: t.drop 1)) = false
        cases k with
        | zero => simp [shapedD]
        | succ k => simp only [shapedD, opOf_of, List.all_cons, hbad.2 k, Bool.false_and, Bool.and_false]
    refine ⟨?_, ?_⟩
    · rw [ec, List.length_drop]
      exact Nat.le_of_lt (tolist (by show 2 + (t.length - 1) ≤ _; omega))
    · rw [ec]
      exact h _ hb2 _ d3
  | _ => simp [wfD] at hd
end Rd

set_option Elab.async false
set_option linter.all false
set_option autoImplicit false
set_option maxRecDepth 100000
set_option maxHeartbeats 4000000
/-! readings: the law's operations -/
namespace Rd
open PySem PySem.Spec PyProof.Rows L2 DH Bd
local macro_rules | `(tactic| walk_at "if") => `(tactic| first | (refine ⟨fun _ => ?_, fun hc => absurd hc (by decide)⟩) | (refine ⟨fun hc => absurd hc (by decide), fun _ => ?_⟩))
def sp_ops : DSp := fun ds M Q _ => ∃ (p c : Addr) (w : Nat), ds = [.ref p, .ref c, .int w] ∧ 1 ≤ w ∧ w ≤ 4 ∧ Dw p c M ∧ ∀ M', Dr c M M' → Q (.bl true) M'
def env3 (x y z : Nat) : List (Key × D) := [(.inr "p", .int x), (.inr "q", .int y), (.inr "r", .int z)]
def rho3 (x y z : Nat) : Str → Nat := fun s => if s = "p" then x else if s = "q" then y else z
theorem env3_ok {M : Mm} {a : Addr} {w x y z : Nat} (h : M a = some (.dk (env3 x y z))) (hx : x < 2 ^ w) (hy : y < 2 ^ w) (hz : z < 2 ^ w) : EnvM M a w (rho3 x y z) ["p", "q", "r"] :=
  ⟨_, h, fun s hs => by
    simp only [List.mem_cons, List.not_mem_nil, or_false] at hs
    rcases hs with rfl | rfl | rfl
    · exact ⟨rfl, hx⟩
    · exact ⟨rfl, hy⟩
    · exact ⟨rfl, hz⟩⟩
theorem sgn_ok : ∀ w : Fin 5, ∀ x : Fin 16, 1 ≤ w.1 → x.1 < 2 ^ w.1 → sgn w.1 x.1 = (x.1 : Int) - (x.1 : Int) / (1 * 2 ^ ((w.1 : Int) - 1).toNat) * (1 * 2 ^ (w.1 : Int).toNat) := by decide +kernel
theorem op_at {i : Nat} {d : D} (h : (ops.map fun o => D.str o.nm)[i]? = some d) : ∃ o : Op, d = .str o.nm := by
  rw [List.getElem?_map] at h
  obtain ⟨o, _, rfl⟩ := Option.map_eq_some_iff.mp h
  exact ⟨o, rfl⟩
theorem rv1 (x y z : Nat) : rho3 x y z "p" = x := rfl
theorem rv2 (x y z : Nat) : rho3 x y z "q" = y := rfl
theorem rv3 (x y z : Nat) : rho3 x y z "r" = z := rfl
theorem strW {w : Nat} {s : Str} {nms : List Str} (h : s ∈ nms) : wfD w nms (.str s) = true := by simp only [wfD]; exact decide_eq_true h
def lsS : Nat → List Str
  | 1 => ["p"] | 2 => ["p", "q"] | 3 => ["p", "r", "q"] | _ => []
theorem lsS_len : ∀ m : Nat, 1 ≤ m → m ≤ 3 → (lsS m).length = m
  | 1, _, _ => rfl | 2, _, _ => rfl | 3, _, _ => rfl
theorem lsS_mem : ∀ (m : Nat) (s : Str), s ∈ lsS m → s ∈ (["p", "q", "r"] : List Str) := fun m s h => by
  unfold lsS at h
  split at h <;> simp at h ⊢
  · exact .inl h
  · exact h.imp id .inl
  · rcases h with h | h | h
    · exact .inl h
    · exact .inr (.inr h)
    · exact .inr (.inl h)
theorem let_at : ∀ (m a : Fin 4), a.1 < m.1 → (atI ("prq" : Str).cps.toList ((2 * (0 + (a.1 : Int))) / (if (m.1 : Int) - 1 > 1 then (m.1 : Int) - 1 else 1))).map (fun ch => (⟨#[ch]⟩ : Str)) = (lsS m.1)[a.1]? := by decide +kernel
theorem args_pick : ∀ (m : Nat) (xs : List Nat), 1 ≤ m → m ≤ 3 → xs.length = m → ∃ x y z, x ∈ xs ∧ y ∈ xs ∧ z ∈ xs ∧ atI (wds xs) 0 = some (.int x) ∧ atI (wds xs) (-1) = some (.int y) ∧ atI (wds xs) ((m : Int) / 2) = some (.int z) ∧ (lsS m).map (rho3 x y z) = xs
  | 1, [x], _, _, _ => ⟨x, x, x, by simp, by simp, by simp, rfl, rfl, rfl, rfl⟩
  | 2, [x, y], _, _, _ => ⟨x, y, y, by simp, by simp, by simp, rfl, rfl, rfl, rfl⟩
  | 3, [x, y, z], _, _, _ => ⟨x, z, y, by simp, by simp, by simp, rfl, rfl, rfl, rfl⟩
theorem r__law_operations : ∀ ds M Q E, sp_ops ds M Q E → b__law_operations sp_arity sp_whole sp_take (sp_lvalue 3) sp_operate sp_signed_value (En Q) (startD 10 ds) M := by
  rintro ds M Q E ⟨p, c, w, rfl, h1, h4, dw, h⟩
  have hB := Nat.two_pow_pos w
  have hpow : (1 : Int) * 2 ^ (w : Int).toNat = ((2 ^ w : Nat) : Int) := pow_cast w
  have hcp : CPow 1 (w : Int) := cpow w (by omega) (by decide)
  refine ⟨by show 14 ≤ sizeLine; decide, fun pw hpw => ?_⟩
  have hwc := dw.cne hpw
  have d0 : Dr c M (updM M pw (.lst (ops.map fun o => D.str o.nm))) := .new hpw
  have hw : updM M pw (.lst (ops.map fun o => D.str o.nm)) pw = some (.lst (ops.map fun o => D.str o.nm)) := updM_same
  walk_at "if"
  refine ⟨_, hw, ?_⟩
  refine ⟨fun i E M' => Dr c M M' ∧ M' pw = some (.lst (ops.map fun o => D.str o.nm)) ∧ ∃ x1 x2 x3 x4 x5 x6, E = [some (.ref p), some (.ref c), some (.int w), some (.ref pw), x1, x2, x3, x4, x5, x6], ⟨d0, hw, none, none, none, none, none, none, rfl⟩, fun i E M' ⟨_, h2, _⟩ => h2, ?_, ?_⟩
  · rintro i E M' d hd ⟨hx, hw1, x1, x2, x3, x4, x5, x6, rfl⟩
    obtain ⟨o, rfl⟩ := op_at hd
    have har := ar3 o
    refine ⟨o, _, rfl, rfl, fun M1 e1 => ?_⟩
    have d1 := hx.trans (Dr.ofExt (c := c) e1)
    refine ⟨.int o.ar, by rw [arity_look, opOf_of]; rfl, _, _, rfl, ?_⟩
    refine ⟨fun hc => absurd hc (by simp), fun _ => ?_⟩
    refine ⟨by omega, by omega, fun r hr => ?_⟩
    have hr0 := d1.back dw.cur hr
    have hrc := dw.cne hr0
    refine ⟨fun a acc M2 => Dr c M1 M2 ∧ M2 r = some (.lst acc) ∧ ∃ xs : List Nat, acc = wds xs ∧ xs.length = a ∧ ∀ x ∈ xs, x < 2 ^ w, ⟨.new hr, updM_same, [], rfl, rfl, by simp⟩, fun _ _ _ _ => trivial, ?_, ?_⟩
    · rintro a acc M2 d hd ⟨hx2, hr2, xs, rfl, hxl, hall⟩
      obtain ⟨ha, rfl⟩ := rng_at hd
      refine ⟨fun _ => ⟨hcp, p, c, 2 ^ w, by show [_, _, D.int (1 * 2 ^ (w : Int).toNat)] = _; rw [hpow], hB, (dw.go d1).go hx2, fun v hv M3 d3 => ?_⟩, fun hc => absurd hc (by decide)⟩
      have ha : a < o.ar := by have : a < (o.ar : Int).toNat := ha; omega
      refine ⟨d3.ex _ _ hrc hr2, by rw [List.length_map]; exact tolist (by omega), (hx2.trans d3).mut (d1.cur dw.cur) hr, updM_same, xs ++ [v], by simp [wds], by simp [hxl], fun x hx => ?_⟩
      rcases List.mem_append.mp hx with hx | hx
      · exact hall x hx
      · cases List.mem_singleton.mp hx; exact hv
    rintro acc M2 ⟨hx2, hr2, xs, rfl, hxl, hall⟩
    rw [rng_len] at hxl
    have hxl : xs.length = o.ar := by have : xs.length = (o.ar : Int).toNat := hxl; omega
    have d2 := d1.trans hx2
    have hw2 : M2 pw = some (.lst (ops.map fun o => D.str o.nm)) := hx2.ex _ _ hwc (e1 _ _ hw1)
    obtain ⟨x, y, z, mx, my, mz, ex, ey, ez, ev⟩ := args_pick o.ar xs har.2 har.1 hxl
    refine fun e he => ?_
    have her : r ≠ e := fun z => by subst z; rw [he] at hr2; cases hr2
    have hec := (dw.go d2).cne he
    have hr3 : updM M2 e (.dk []) r = some (.lst (wds xs)) := by rw [updM_ne her]; exact hr2
    refine .inl ⟨_, _, _, hr3, rfl, ex, .inl ⟨_, _, _, hr3, rfl, ey, ⟨by decide, by decide⟩, .inl ⟨_, _, _, hr3, rfl, ez, updM_same, env3 x y z, rfl, by show 3 ≤ 15; decide, ?_⟩⟩⟩
    have hmg : mergeD [] (env3 x y z) = env3 x y z := rfl
    rw [hmg]
    have d3 : Dr c M (updM (updM M2 e (.dk [])) e (.dk (env3 x y z))) := (d2.trans (.new he)).mut (dw.cur) (d2.back dw.cur he)
    have x3 : Ext M2 (updM (updM M2 e (.dk [])) e (.dk (env3 x y z))) := (Ext.new he).mut he
    have he3 : updM (updM M2 e (.dk [])) e (.dk (env3 x y z)) e = some (.dk (env3 x y z)) := updM_same
    generalize updM (updM M2 e (.dk [])) e (.dk (env3 x y z)) = M3 at d3 x3 he3 ⊢
    refine ⟨by show 1 ≤ sizeLine; decide, fun t ht => ?_⟩
    have htc := (dw.go d3).cne ht
    refine ⟨by omega, by omega, fun u hu => ?_⟩
    have x4 : Ext M3 (updM M3 t (.lst [.str o.nm])) := Ext.new ht
    have ht4 : updM M3 t (.lst [.str o.nm]) t = some (.lst [.str o.nm]) := updM_same
    generalize updM M3 t (.lst [.str o.nm]) = M4 at x4 ht4 hu ⊢
    refine ⟨fun a acc M5 => Ext M4 M5 ∧ M5 u = some (.lst acc) ∧ acc = ((lsS o.ar).take a).map .str, ⟨Ext.new hu, updM_same, rfl⟩, fun _ _ _ _ => trivial, ?_, ?_⟩
    · rintro a acc M5 d hd ⟨hx5, hu5, rfl⟩
      obtain ⟨ha, rfl⟩ := rng_at hd
      have ha : a < o.ar := by have : a < (o.ar : Int).toNat := ha; omega
      have hl := let_at ⟨o.ar, by omega⟩ ⟨a, by omega⟩ ha
      refine ⟨fun _ => ⟨.inl ⟨by decide, by decide⟩, ?_, by decide, ?_⟩, fun hc => absurd hc (by decide)⟩
      · show 0 < (if (o.ar : Int) - 1 > 1 then (o.ar : Int) - 1 else 1) ∧ (if (o.ar : Int) - 1 > 1 then (o.ar : Int) - 1 else 1) < 1073741824
        split <;> omega
      · cases eq : atI ("prq" : Str).cps.toList ((2 * (0 + (a : Int))) / (if (o.ar : Int) - 1 > 1 then (o.ar : Int) - 1 else 1)) with
        | none =>
          have hl : (atI ("prq" : Str).cps.toList ((2 * (0 + (a : Int))) / (if (o.ar : Int) - 1 > 1 then (o.ar : Int) - 1 else 1))).map (fun ch => (⟨#[ch]⟩ : Str)) = (lsS o.ar)[a]? := hl
          rw [eq] at hl
          have := List.getElem?_eq_none_iff.mp hl.symm
          rw [lsS_len o.ar har.2 har.1] at this
          omega
        | some ch =>
          have hl : (atI ("prq" : Str).cps.toList ((2 * (0 + (a : Int))) / (if (o.ar : Int) - 1 > 1 then (o.ar : Int) - 1 else 1))).map (fun ch => (⟨#[ch]⟩ : Str)) = (lsS o.ar)[a]? := hl
          rw [eq] at hl
          have hl : (lsS o.ar)[a]? = some ⟨#[ch]⟩ := hl.symm
          refine ⟨ch, rfl, hu5, by rw [List.length_map, List.length_take]; exact tolist (by omega), hx5.mut hu, updM_same, (map_snoc _ hl).symm⟩
    · rintro acc M5 ⟨hx5, hu5, rfl⟩
      have hu5 : M5 u = some (.lst (((lsS o.ar).take (rngD 0 (o.ar : Int).toNat).length).map .str)) := hu5
      rw [rng_len, show (o.ar : Int).toNat = (lsS o.ar).length by rw [lsS_len o.ar har.2 har.1]; omega, List.take_length] at hu5
      have x5 := x4.trans hx5
      refine ⟨_, _, hx5 _ _ ht4, hu5, by rw [List.length_map, lsS_len o.ar har.2 har.1]; exact Nat.le_of_lt (tolist (by show 1 + o.ar ≤ _; omega)), fun s hs => ?_⟩
      refine ⟨_, updM_same, ?_⟩
      have x6 := x5.trans (Ext.new (o := .lst ([.str o.nm] ++ (lsS o.ar).map .str)) hs)
      have hwf : wfD w ["p", "q", "r"] (.tup (.str o.nm :: (lsS o.ar).map .str)) = true := wfD_mk (by rw [List.length_map, lsS_len o.ar har.2 har.1]) fun d hd => by
        obtain ⟨s, hs, rfl⟩ := List.mem_map.mp hd
        exact strW (lsS_mem o.ar s hs)
      have hdep : depthD (.tup (.str o.nm :: (lsS o.ar).map .str)) < 3 := by
        rw [depthD_tup]
        have : depthDs ((lsS o.ar).map .str) ≤ 0 := depthDs_le fun d hd => by
          obtain ⟨s, hs, rfl⟩ := List.mem_map.mp hd
          simp [depthD]
        show depthDs ((lsS o.ar).map .str) + 1 < 3
        omega
      refine ⟨_, w, e, _, _, rfl, h1, h4, hwf, hdep, env3_ok (x6 _ _ he3) (hall x mx) (hall y my) (hall z mz), fun M7 e7 => ?_⟩
      have hval : evD w (rho3 x y z) (.tup (.str o.nm :: (lsS o.ar).map .str)) = o.v w xs := by
        simp only [evD, opOf_of, evDs_map]
        congr 1
        rw [← ev, List.map_map]
        apply List.map_congr_left
        intro s hs
        simp only [Function.comp, evD, ev]
      rw [show (([D.str o.nm] ++ (lsS o.ar).map D.str)) = D.str o.nm :: (lsS o.ar).map D.str from rfl, hval]
      have x7 := (x3.trans x6).trans e7
      refine ⟨_, x7 _ _ hr2, fun v hv => ?_⟩
      refine ⟨o, w, xs, .ref v, rfl, .inr ⟨v, rfl, updM_same⟩, hxl, h1, h4, hall, _, _, rfl, ?_⟩
      refine ⟨fun hc => absurd hc (by simp), fun _ => ?_⟩
      have x8 := x7.trans (Ext.new (o := .lst (wds xs)) hv)
      refine ⟨_, x8 _ _ hr2, ?_⟩
      refine ⟨o, w, xs, .tup (wds xs), rfl, .inl rfl, hxl, h1, h4, hall, _, _, rfl, ?_⟩
      refine ⟨fun hc => absurd hc (by simp), fun _ => ?_⟩
      exact ⟨d2.trans (.ofExt x8), x8 _ _ hw2, _, _, _, _, _, _, rfl⟩
  · rintro E M' ⟨hx, hw1, x1, x2, x3, x4, x5, x6, rfl⟩
    refine ⟨hcp, p, c, 2 ^ w, by show [_, _, D.int (1 * 2 ^ (w : Int).toNat)] = _; rw [hpow], hB, dw.go hx, fun v hv M1 d1 => ?_⟩
    have hp1 : (1 : Int) * 2 ^ ((w : Int) - 1).toNat = ((2 ^ (w - 1) : Nat) : Int) := by
      rw [show ((w : Int) - 1).toNat = w - 1 by omega, Int.one_mul]; norm_cast
    have hb1 := Nat.two_pow_pos (w - 1)
    have hb2 : 2 ^ (w - 1) ≤ 16 := Nat.pow_le_pow_right (n := 2) (by decide) (show w - 1 ≤ 4 by omega)
    have hb3 : 2 ^ w ≤ 16 := Nat.pow_le_pow_right (n := 2) (by decide) h4
    refine ⟨⟨by omega, by omega, by decide⟩, ⟨?_, ?_⟩, hcp, .inr ⟨?_, ?_⟩, ?_⟩
    · show (0 : Int) < 1 * 2 ^ ((w : Int) - 1).toNat
      rw [hp1]; omega
    · show (1 : Int) * 2 ^ ((w : Int) - 1).toNat < _
      rw [hp1]; omega
    · show -(2 ^ 64) < (1 : Int) * 2 ^ (w : Int).toNat
      rw [hpow]; omega
    · show (1 : Int) * 2 ^ (w : Int).toNat < 2 ^ 64
      rw [hpow]; omega
    · refine ⟨w, v, rfl, by omega, _, _, rfl, ?_⟩
      exact qb (h M1 (hx.trans d1)) (decide_eq_true (sgn_ok ⟨w, by omega⟩ ⟨v, by omega⟩ h1 hv))
end Rd

set_option Elab.async false
set_option linter.all false
set_option autoImplicit false
set_option maxRecDepth 100000
set_option maxHeartbeats 4000000
/-! readings: dicts and equality, laws -/
namespace Rd
open PySem PySem.Spec PyProof.Rows L2 DH Bd
/-! ### dicts -/
theorem valD_cons (k0 k : Key) (d0 : D) (r : List (Key × D)) : valD ((k0, d0) :: r) k = if k0 = k then some d0 else valD r k := by
  by_cases e : k0 = k
  · simp [valD, e]
  · simp [valD, e]
theorem valD_map (k : Key) (v : D) (k' : Key) : ∀ kvs : List (Key × D), valD (kvs.map fun kv => if kv.1 = k then (kv.1, v) else kv) k' = if k' = k then (if (kvs.any fun kv => decide (kv.1 = k)) = true then some v else none) else valD kvs k'
  | [] => by simp [valD]
  | (k0, d0) :: r => by
    rw [List.map_cons, List.any_cons]
    by_cases e : k0 = k
    · subst e
      have e0 : (if (k0, d0).1 = k0 then ((k0, d0).1, v) else (k0, d0)) = (k0, v) := if_pos rfl
      rw [e0, valD_cons, valD_map k0 v k' r, valD_cons]
      by_cases e2 : k0 = k'
      · subst e2; simp
      · rw [if_neg e2, if_neg (Ne.symm e2), if_neg (Ne.symm e2), if_neg e2]
    · have e0 : (if (k0, d0).1 = k then ((k0, d0).1, v) else (k0, d0)) = (k0, d0) := if_neg e
      rw [e0, valD_cons, valD_map k v k' r, valD_cons]
      by_cases e2 : k0 = k'
      · subst e2; rw [if_pos rfl, if_neg e, if_pos rfl]
      · rw [if_neg e2, if_neg e2, show decide ((k0, d0).1 = k) = false from decide_eq_false e, Bool.false_or]
theorem valD_any (k : Key) : ∀ kvs : List (Key × D), (kvs.any fun kv => decide (kv.1 = k)) = (valD kvs k).isSome
  | [] => by simp [valD]
  | (k0, d0) :: r => by
    rw [List.any_cons, valD_cons, valD_any k r]
    by_cases e : k0 = k
    · simp [e]
    · simp [e]
theorem valD_app (k : Key) (v : D) (k' : Key) : ∀ kvs : List (Key × D), valD (kvs ++ [(k, v)]) k' = match valD kvs k' with
    | some d => some d
    | none => if k = k' then some v else none
  | [] => by rw [List.nil_append, valD_cons]; simp [valD]
  | (k0, d0) :: r => by
    rw [List.cons_append, valD_cons, valD_cons, valD_app k v k' r]
    by_cases e : k0 = k'
    · rw [if_pos e, if_pos e]
    · rw [if_neg e, if_neg e]
theorem putD_val (kvs : List (Key × D)) (k : Key) (v : D) (k' : Key) : valD (putD kvs k v) k' = if k' = k then some v else valD kvs k' := by
  unfold putD
  by_cases h : (kvs.any fun kv => decide (kv.1 = k)) = true
  · rw [if_pos h, valD_map, if_pos h]
  · rw [if_neg h, valD_app]
    rw [valD_any] at h
    by_cases e : k' = k
    · subst e
      rw [if_pos rfl]
      cases q : valD kvs k' with
      | none => simp
      | some d => rw [q] at h; simp at h
    · rw [if_neg e, if_neg (Ne.symm e)]
      cases valD kvs k' <;> rfl
theorem putD_len (kvs : List (Key × D)) (k : Key) (v : D) : (putD kvs k v).length ≤ kvs.length + 1 := by
  unfold putD
  split
  · rw [List.length_map]; omega
  · rw [List.length_append]; simp
theorem putD_mem {kvs : List (Key × D)} {k : Key} {v : D} {kv : Key × D} (h : kv ∈ putD kvs k v) : kv ∈ kvs ∨ kv.2 = v := by
  unfold putD at h
  split at h
  · obtain ⟨x, hx, rfl⟩ := List.mem_map.mp h
    split
    · exact .inr rfl
    · exact .inl hx
  · rcases List.mem_append.mp h with h | h
    · exact .inl h
    · exact .inr (by rw [List.mem_singleton.mp h])
def KeysN (kvs : List (Key × D)) : Prop := (kvs.map (·.1)).Nodup
theorem putD_nodup {kvs : List (Key × D)} {k : Key} {v : D} (h : KeysN kvs) : KeysN (putD kvs k v) := by
  unfold KeysN putD at *
  split
  · rw [List.map_map]
    have : ((fun x : Key × D => x.1) ∘ fun kv : Key × D => if kv.1 = k then (kv.1, v) else kv) = fun x => x.1 := by
      funext x
      simp only [Function.comp]
      split <;> rfl
    rw [this]; exact h
  · rename_i q
    rw [List.map_append]
    refine List.nodup_append.mpr ⟨h, by simp, fun a ha b hb => ?_⟩
    have hb : b = k := by simpa using hb
    subst hb
    intro e
    subst e
    obtain ⟨x, hx, rfl⟩ := List.mem_map.mp ha
    exact q (List.any_eq_true.mpr ⟨x, hx, by simp⟩)
theorem valD_self : ∀ {kvs : List (Key × D)}, KeysN kvs → ∀ kv ∈ kvs, valD kvs kv.1 = some kv.2
  | [], _, _, h => by cases h
  | (k0, d0) :: r, hn, kv, h => by
    unfold KeysN at hn
    rw [List.map_cons, List.nodup_cons] at hn
    rw [valD_cons]
    rcases List.mem_cons.mp h with rfl | h
    · rw [if_pos rfl]
    · have : k0 ≠ kv.1 := fun e => hn.1 (e ▸ List.mem_map.mpr ⟨kv, h, rfl⟩)
      rw [if_neg this]
      exact valD_self hn.2 kv h
theorem valD_memb : ∀ {kvs : List (Key × D)} {k : Key} {d : D}, valD kvs k = some d → ∃ kv ∈ kvs, kv.2 = d
  | [], _, _, h => by simp [valD] at h
  | (k0, d0) :: r, k, d, h => by
    rw [valD_cons] at h
    by_cases e : k0 = k
    · rw [if_pos e] at h; cases h; exact ⟨(k0, d0), by simp, rfl⟩
    · rw [if_neg e] at h
      obtain ⟨kv, h1, h2⟩ := valD_memb h
      exact ⟨kv, List.mem_cons_of_mem _ h1, h2⟩
/-! ### data that can be compared -/
structure OkD (n : Nat) (d : D) : Prop where
  pu : pureD d = true
  la : (toPD d).canLay0 = true
  de : (toPD d).depth ≤ n
theorem OkD.shaped {n : Nat} {d : D} (h : OkD n d) (hn : n ≤ 64) : SeqAt.shaped (toPD d) = true := by
  unfold SeqAt.shaped
  rw [h.la, decide_eq_true (Nat.le_trans h.de hn)]; rfl
theorem OkD.mono {n m : Nat} {d : D} (h : OkD n d) (l : n ≤ m) : OkD m d := ⟨h.pu, h.la, Nat.le_trans h.de l⟩
theorem ok_int (i : Int) (n : Nat) : OkD n (.int i) := ⟨rfl, rfl, Nat.zero_le _⟩
theorem ok_str {s : Str} (h : PySem.PyData.strOk s = true) (n : Nat) : OkD n (.str s) := ⟨rfl, h, Nat.zero_le _⟩
theorem ok_list {n : Nat} : ∀ {ds : List D}, (∀ d ∈ ds, OkD n d) → pureDs ds = true ∧ PyData.canLayAll0 (toPDs ds) = true ∧ PyData.depthAll (toPDs ds) ≤ n
  | [], _ => ⟨rfl, rfl, Nat.zero_le _⟩
  | d :: ds, h => by
    have h1 := h d (by simp)
    have h2 := ok_list fun e he => h e (List.mem_cons_of_mem _ he)
    refine ⟨?_, ?_, ?_⟩
    · simp only [pureDs, h1.pu, h2.1, Bool.and_self]
    · simp only [toPDs, PyData.canLayAll0, h1.la, h2.2.1, Bool.and_self]
    · simp only [toPDs, PyData.depthAll]
      exact Nat.max_le.mpr ⟨h1.de, h2.2.2⟩
theorem ok_tup {n : Nat} {ds : List D} (h : ∀ d ∈ ds, OkD n d) : OkD (n + 1) (.tup ds) := by
  obtain ⟨h1, h2, h3⟩ := ok_list h
  refine ⟨by simp only [pureD, h1], by simp only [toPD, PyData.canLay0, h2], by simp only [toPD, PyData.depth]; omega⟩
mutual
theorem vw_pure {M : Mm} : ∀ d : D, pureD d = true → Vw M d (toPD d)
  | .non, _ => .non
  | .bl b, _ => .bl b
  | .int i, _ => .int i
  | .str s, _ => .str s
  | .tup ds, h => by
    have h : pureDs ds = true := by simpa only [pureD] using h
    obtain ⟨h1, h2⟩ := vw_pures (M := M) ds h
    simp only [toPD]
    exact .tup _ h1 h2
  | .ref _, h => by simp [pureD] at h
  | .ty _, h => by simp [pureD] at h
  | .kd _, h => by simp [pureD] at h
  | .fl _, h => by simp [pureD] at h
theorem vw_pures {M : Mm} : ∀ ds : List D, pureDs ds = true → ds.length = (toPDs ds).length ∧ ∀ (i : Nat) d p, ds[i]? = some d → (toPDs ds)[i]? = some p → Vw M d p
  | [], _ => ⟨rfl, fun i d p h => by simp at h⟩
  | x :: xs, h => by
    simp only [pureDs, Bool.and_eq_true] at h
    have hx := vw_pure (M := M) x h.1
    obtain ⟨h1, h2⟩ := vw_pures (M := M) xs h.2
    refine ⟨by simp only [toPDs, List.length_cons, h1], fun i d p e1 e2 => ?_⟩
    simp only [toPDs] at e2
    cases i with
    | zero =>
      simp at e1 e2
      subst e1; subst e2; exact hx
    | succ i =>
      simp at e1 e2
      exact h2 i d p e1 e2
end
theorem eq_same {n : Nat} {x : D} {M : Mm} {Q : DQ} (h : OkD n x) (hn : n ≤ 64) (q : Q (.bl true) M) : oEq x x M Q := by
  have gen : scalEq x x = none → oEq x x M Q := fun e => by
    unfold oEq
    rw [e]
    refine .inl ⟨_, _, vw_pure x h.pu, vw_pure x h.pu, h.shaped hn, h.shaped hn, ?_⟩
    rw [SeqAt.eqv_refl _ h.la]; exact q
  cases x with
  | non => exact q
  | bl b => exact qb q (by simp)
  | int i => exact qb q (by simp)
  | str s => exact qb q (by simp)
  | tup ds => exact gen rfl
  | ref a => exact gen rfl
  | ty n => exact gen rfl
  | kd k => exact gen rfl
  | fl k => exact gen rfl
theorem put_ok {w : Nat} {nms : List Str} {f : Str → Option D} (hs : ∀ s ∈ nms, PyData.strOk s = true) (hf : ∀ s v, f s = some v → OkD 1 v) : ∀ (k : Nat) (d : D), wfD w nms d = true → depthD d ≤ k → OkD (k + 1) (putF f d)
  | k, .int i, _, _ => by simp only [putF]; exact ok_int i _
  | k, .str s, h, _ => by
    simp only [wfD] at h
    simp only [putF]
    cases e : f s with
    | none => exact ok_str (hs s (of_decide_eq_true h)) _
    | some v => exact (hf s v e).mono (by omega)
  | 0, .tup ds, h, hd => by rw [depthD_tup] at hd; omega
  | k + 1, .tup ds, h, hd => by
    obtain ⟨o, t, rfl, hl, ht, _⟩ := op_inv h
    rw [depthD_tup] at hd
    have hd : depthDs t + 1 ≤ k + 1 := hd
    simp only [putF, putFs_map]
    refine ok_tup fun d hd2 => ?_
    rcases List.mem_cons.mp hd2 with rfl | hd2
    · exact ok_str (by cases o <;> decide +kernel) _
    · obtain ⟨e, he, rfl⟩ := List.mem_map.mp hd2
      exact put_ok hs hf k e (ht e he) (by have := depthD_mem he; omega)
  | k, .non, h, _ => by simp [wfD] at h
  | k, .bl _, h, _ => by simp [wfD] at h
  | k, .ref _, h, _ => by simp [wfD] at h
  | k, .ty _, h, _ => by simp [wfD] at h
  | k, .kd _, h, _ => by simp [wfD] at h
  | k, .fl _, h, _ => by simp [wfD] at h
theorem sizes_le {B : Nat} : ∀ {t : List D}, (∀ d ∈ t, sizeD d ≤ B) → sizeDs t ≤ t.length * B
  | [], _ => by simp [sizeDs]
  | d :: t, h => by
    have h1 := h d (by simp)
    have h2 := sizes_le fun e he => h e (List.mem_cons_of_mem _ he)
    simp only [sizeDs, List.length_cons, Nat.succ_mul]; omega
theorem wf_size {w : Nat} {nms : List Str} : ∀ (k : Nat) (d : D), wfD w nms d = true → depthD d ≤ k → sizeD d ≤ 4 ^ k
  | k, .int i, _, _ => by simp only [sizeD]; exact Nat.one_le_pow _ _ (by decide)
  | k, .str s, _, _ => by simp only [sizeD]; exact Nat.one_le_pow _ _ (by decide)
  | 0, .tup ds, h, hd => by rw [depthD_tup] at hd; omega
  | k + 1, .tup ds, h, hd => by
    obtain ⟨o, t, rfl, hl, ht, _⟩ := op_inv h
    rw [depthD_tup] at hd
    have hd : depthDs t + 1 ≤ k + 1 := hd
    rw [sizeD_tup]
    have h1 : sizeDs t ≤ t.length * 4 ^ k := sizes_le fun d hd2 => wf_size k d (ht d hd2) (by have := depthD_mem hd2; omega)
    have h2 : t.length * 4 ^ k ≤ 3 * 4 ^ k := Nat.mul_le_mul_right _ (by rw [hl]; exact (ar3 o).1)
    have h3 : 1 ≤ 4 ^ k := Nat.one_le_pow _ _ (by decide)
    show 1 + sizeDs t ≤ 4 ^ (k + 1)
    rw [Nat.pow_succ]; omega
  | k, .non, h, _ => by simp [wfD] at h
  | k, .bl _, h, _ => by simp [wfD] at h
  | k, .ref _, h, _ => by simp [wfD] at h
  | k, .ty _, h, _ => by simp [wfD] at h
  | k, .kd _, h, _ => by simp [wfD] at h
  | k, .fl _, h, _ => by simp [wfD] at h
theorem wf_full {w : Nat} {nms : List Str} : ∀ (k : Nat) (d : D), wfD w nms d = true → depthD d ≤ k → fullD d = true
  | k, .int i, _, _ => by simp [fullD]
  | k, .str s, _, _ => by simp [fullD]
  | 0, .tup ds, h, hd => by rw [depthD_tup] at hd; omega
  | k + 1, .tup ds, h, hd => by
    obtain ⟨o, t, rfl, hl, ht, _⟩ := op_inv h
    rw [depthD_tup] at hd
    have hd : depthDs t + 1 ≤ k + 1 := hd
    have hs : ∀ l : List D, (∀ d ∈ l, fullD d = true) → fullDs l = true := fun l => by
      induction l with
      | nil => intro _; simp [fullDs]
      | cons a l ih => intro h; simp only [fullDs, h a (by simp), ih fun x hx => h x (by simp [hx]), Bool.and_self]
    simp only [fullD]
    exact hs t fun d hd2 => wf_full k d (ht d hd2) (by have := depthD_mem hd2; omega)
  | k, .non, h, _ => by simp [wfD] at h
  | k, .bl _, h, _ => by simp [wfD] at h
  | k, .ref _, h, _ => by simp [wfD] at h
  | k, .ty _, h, _ => by simp [wfD] at h
  | k, .kd _, h, _ => by simp [wfD] at h
  | k, .fl _, h, _ => by simp [wfD] at h
/-! ### lists of texts, unequal or equal -/
theorem ne_strs {l : List Str} {a b : Addr} {M : Mm} {Q : DQ} (hs : ∀ s ∈ l, PyData.strOk s = true) (ha : M a = some (.lst (l.map .str))) (hb : M b = some (.lst (l.map .str))) (q : Q (.bl false) M) : oNe (.ref a) (.ref b) M Q := by
  have hok := ok_list (n := 0) (ds := l.map D.str) fun d hd => by
    obtain ⟨s, h, rfl⟩ := List.mem_map.mp hd
    exact ok_str (hs s h) 0
  obtain ⟨h1, h2⟩ := vw_pures (M := M) _ hok.1
  have hsh : SeqAt.shaped (.list (toPDs (l.map D.str))) = true := by
    unfold SeqAt.shaped
    have e : PyData.canLay0 (.list (toPDs (l.map D.str))) = true := by simp only [PyData.canLay0, hok.2.1]
    have e2 : PyData.depth (.list (toPDs (l.map D.str))) ≤ 64 := by simp only [PyData.depth]; have := hok.2.2; omega
    rw [e, decide_eq_true e2]; rfl
  refine ⟨.list (toPDs (l.map D.str)), .list (toPDs (l.map D.str)), .lst _ ha h1 h2, .lst _ hb h1 h2, hsh, hsh, ?_⟩
  rw [SeqAt.eqv_refl _ (SeqAt.canLay_of_shaped hsh)]; exact q
end Rd

set_option Elab.async false
set_option linter.all false
set_option autoImplicit false
set_option maxRecDepth 100000
set_option maxHeartbeats 8000000
/-! readings: the law -/
namespace Rd
open PySem PySem.Spec PyProof.Rows L2 DH Bd
local macro_rules | `(tactic| walk_at "if") => `(tactic| first | (refine ⟨fun _ => ?_, fun hc => absurd hc (by decide)⟩) | (refine ⟨fun hc => absurd hc (by decide), fun _ => ?_⟩))
theorem add_one {Q : DQ} {M : Mm} {r : Nat} (h : Q (.int ((r + 1 : Nat) : Int)) M) : oAdd (.int 1) (.int r) M Q := qi (show Q (.int ((r + 1 : Nat) : Int)) M from h) (show (1 : Int) + r = ((r + 1 : Nat) : Int) by omega)
def allN : List Str := ["u", "v2", "alpha", "k"]
theorem names_cut : ∀ r : Nat, r < 5 → cutL D (allN.map D.str) none (some (r : Int)) = (allN.take r).map D.str
  | 0, _ => rfl | 1, _ => rfl | 2, _ => rfl | 3, _ => rfl | 4, _ => rfl
theorem names_in {r : Nat} {s : Str} (h : s ∈ allN.take r) : s ∈ allN := List.mem_of_mem_take h
theorem names_ok : ∀ s ∈ allN, PyData.strOk s = true := by decide +kernel
theorem four_at : ∀ r : Nat, r < 4 → ∃ m : Nat, ([.int 0, .int 0, .int 4, .int 6] : List D)[r]? = some (.int m) ∧ m ≤ 6
  | 0, _ => ⟨0, rfl, by decide⟩
  | 1, _ => ⟨0, rfl, by decide⟩
  | 2, _ => ⟨4, rfl, by decide⟩
  | 3, _ => ⟨6, rfl, by decide⟩
theorem un_at : ∀ r : Nat, r < 2 → ∃ o : Op, ([.str "not", .str "neg"] : List D)[r]? = some (.str o.nm) ∧ o.ar = 1
  | 0, _ => ⟨.not, rfl, rfl⟩
  | 1, _ => ⟨.neg, rfl, rfl⟩
theorem prev_at {l : List Str} {i : Nat} (h : i < l.length) : ∃ s ∈ l, atI (l.map D.str) ((i : Int) - 1) = some (.str s) := by
  cases i with
  | zero =>
    have hl : l.length - 1 < l.length := by omega
    refine ⟨l[l.length - 1], List.getElem_mem hl, ?_⟩
    unfold atI ixN
    rw [List.length_map]
    rw [if_neg (by decide), if_pos (by omega)]
    have e : (((0 : Nat) : Int) - 1 + (l.length : Int)).toNat = l.length - 1 := by omega
    rw [e]
    show (l.map D.str)[l.length - 1]? = _
    rw [List.getElem?_map, List.getElem?_eq_getElem hl]; rfl
  | succ i =>
    have hl : i < l.length := by omega
    refine ⟨l[i], List.getElem_mem hl, ?_⟩
    rw [show (((i + 1 : Nat) : Int) - 1) = (i : Int) by omega]
    exact atI_nat (by rw [List.getElem?_map, List.getElem?_eq_getElem hl]; rfl)
theorem addN_in {f l : List Str} {s : Str} (h : s ∈ addN f l) : s ∈ f ∨ s ∈ l := by
  induction l generalizing f with
  | nil => exact .inl h
  | cons x r ih =>
    have h : s ∈ addN (if x ∈ f then f else f ++ [x]) r := h
    rcases ih h with h | h
    · split at h
      · exact .inl h
      · rcases List.mem_append.mp h with h | h
        · exact .inl h
        · exact .inr (by rw [List.mem_singleton.mp h]; simp)
    · exact .inr (List.mem_cons_of_mem _ h)
mutual
theorem names_wf {w : Nat} {nms : List Str} : ∀ {d : D}, wfD w nms d = true → ∀ s ∈ namesD d, s ∈ nms
  | .str s, h, x, hx => by
    simp only [wfD] at h
    simp only [namesD, List.mem_singleton] at hx
    subst hx; exact of_decide_eq_true h
  | .int _, _, x, hx => by simp [namesD] at hx
  | .tup (.str s :: t), h, x, hx => by
    simp only [wfD] at h
    split at h
    · simp only [namesD] at hx
      exact namess_wf (Bool.and_eq_true_iff.mp h).2 [] (by simp) x hx
    · cases h
  | .tup [], h, _, _ => by simp [wfD] at h
  | .tup (.int _ :: _), h, _, _ => by simp [wfD] at h
  | .tup (.tup _ :: _), h, _, _ => by simp [wfD] at h
  | .tup (.non :: _), h, _, _ => by simp [wfD] at h
  | .tup (.bl _ :: _), h, _, _ => by simp [wfD] at h
  | .tup (.ref _ :: _), h, _, _ => by simp [wfD] at h
  | .tup (.ty _ :: _), h, _, _ => by simp [wfD] at h
  | .tup (.kd _ :: _), h, _, _ => by simp [wfD] at h
  | .tup (.fl _ :: _), h, _, _ => by simp [wfD] at h
  | .non, h, _, _ => by simp [wfD] at h
  | .bl _, h, _, _ => by simp [wfD] at h
  | .ref _, h, _, _ => by simp [wfD] at h
  | .ty _, h, _, _ => by simp [wfD] at h
  | .kd _, h, _, _ => by simp [wfD] at h
  | .fl _, h, _, _ => by simp [wfD] at h
theorem namess_wf {w : Nat} {nms : List Str} : ∀ {t : List D}, wfDs w nms t = true → ∀ f : List Str, (∀ s ∈ f, s ∈ nms) → ∀ s ∈ namesDs f t, s ∈ nms
  | [], _, f, hf, s, hs => hf s (by simpa only [namesDs] using hs)
  | d :: t, h, f, hf, s, hs => by
    simp only [wfDs, Bool.and_eq_true] at h
    simp only [namesDs] at hs
    refine namess_wf h.2 _ (fun x hx => ?_) s hs
    rcases addN_in hx with hx | hx
    · exact hf x hx
    · exact names_wf h.1 x hx
end
theorem three_ok {s : Str} (hs : PyData.strOk s = true) : ∀ v ∈ ([.tup [.str "xor", .str "other", .str s], .str s, .int 1] : List D), OkD 1 v := fun v hv => by
  simp only [List.mem_cons, List.not_mem_nil, or_false] at hv
  rcases hv with rfl | rfl | rfl
  · refine ok_tup fun d hd => ?_
    simp only [List.mem_cons, List.not_mem_nil, or_false] at hd
    rcases hd with rfl | rfl | rfl
    · exact ok_str (by decide +kernel) _
    · exact ok_str (by decide +kernel) _
    · exact ok_str hs _
  · exact ok_str hs _
  · exact ok_int _ _
def sp_law : DSp := fun ds M Q _ => ∃ ns : List Int, ds = [.fl (ns.map D.int)] ∧ ns.length ≤ 63 ∧ ∀ M', Q (.bl true) M'
theorem r_law : ∀ ds M Q E, sp_law ds M Q E → b_law sp_stream sp_take sp_ops sp_rows sp_strings (sp_formula 4) (sp_ldepth 8) sp_whole (sp_lsize 8) (sp_size 8) (sp_depth 8) (sp_names 8) (sp_lnames 8) sp_valid sp_truth sp_is_formula sp_spoilt (sp_lvalue 8) (sp_value 8) (sp_put_in 8) (sp_lput 8) (En Q) (startD 11 ds) M := by
  rintro ds M Q E ⟨ns, rfl, h63, hQ⟩
  refine ⟨ns, 300, rfl, h63, by decide, by decide, fun p M1 hp0 x1 hnums => ?_⟩
  refine ⟨by show 1 ≤ sizeLine; decide, fun c hc => ?_⟩
  have dw : Dw p c (updM M1 c (.lst [.int 0])) := by
    obtain ⟨xs, e1, e2⟩ := hnums
    have hne : p ≠ c := fun z => by subst z; rw [hc] at e1; cases e1
    exact ⟨hne, ⟨xs, by rw [updM_ne hne]; exact e1, e2⟩, ⟨0, updM_same⟩⟩
  generalize updM M1 c (.lst [.int 0]) = M2 at dw
  refine ⟨p, c, 4, rfl, by decide, dw, fun r hr M3 d3 => ?_⟩
  refine add_one ?_
  have h1 : 1 ≤ r + 1 := by omega
  have h4 : r + 1 ≤ 4 := by omega
  generalize r + 1 = w at h1 h4
  have dw := dw.go d3
  refine ⟨p, c, w, rfl, h1, h4, dw, fun M4 d4 => ?_⟩
  have dw := dw.go d4
  walk_at "if"
  refine ⟨p, c, w, rfl, h1, h4, dw, fun M5 d5 => ?_⟩
  have dw := dw.go d5
  walk_at "if"
  refine ⟨p, c, rfl, dw, fun M6 d6 => ?_⟩
  have dw := dw.go d6
  walk_at "if"
  refine ⟨by show 4 ≤ sizeLine; decide, fun q0 hq0 => ?_⟩
  have hq0c := dw.cne hq0
  have hq0m : updM M6 q0 (.lst (allN.map .str)) q0 = some (.lst (allN.map .str)) := updM_same
  have dw := dw.go (Dr.new (c := c) (o := .lst (allN.map .str)) hq0)
  refine ⟨p, c, 5, rfl, by decide, dw, fun r5 hr5 M7 d7 => ?_⟩
  have dw := dw.go d7
  refine ⟨_, d7.ex _ _ hq0c hq0m, fun q hq => ?_⟩
  rw [names_cut r5 hr5]
  have hqc := dw.cne hq
  have hqm : updM M7 q (.lst ((allN.take r5).map .str)) q = some (.lst ((allN.take r5).map .str)) := updM_same
  have dw := dw.go (Dr.new (c := c) (o := .lst ((allN.take r5).map .str)) hq)
  have hin : ∀ s ∈ allN.take r5, s ∈ allN := fun s hs => names_in hs
  have hnl : (allN.take r5).length ≤ 4 := by rw [List.length_take]; exact Nat.min_le_right _ _
  generalize allN.take r5 = nms at *
  generalize updM M7 q (.lst (nms.map .str)) = M8 at *
  have hnok : ∀ s ∈ nms, PyData.strOk s = true := fun s hs => names_ok s (hin s hs)
  refine ⟨p, c, 4, rfl, by decide, dw, fun k hk M9 d9 => ?_⟩
  have dw := dw.go d9
  have hqm := d9.ex _ _ hqc hqm
  refine ⟨p, c, q, w, k, nms, rfl, hk, h1, h4, dw, hqc, hqm, fun d hd hdep MA dA => ?_⟩
  have dw := dw.go dA
  have hqm := dA.ex _ _ hqc hqm
  refine ⟨by show 4 ≤ sizeLine; decide, fun v hv => ?_⟩
  have hvc := dw.cne hv
  have hvm : updM MA v (.lst [.int 0, .int 0, .int 4, .int 6]) v = some (.lst [.int 0, .int 0, .int 4, .int 6]) := updM_same
  have hqm : updM MA v (.lst [.int 0, .int 0, .int 4, .int 6]) q = _ := Ext.new hv _ _ hqm
  have dw := dw.go (Dr.new (c := c) (o := .lst [.int 0, .int 0, .int 4, .int 6]) hv)
  refine ⟨p, c, 4, rfl, by decide, dw, fun rB hrB MB dB => ?_⟩
  obtain ⟨m, hm, hm6⟩ := four_at rB hrB
  have hqm := dB.ex _ _ hqc hqm
  have dw := dw.go dB
  refine .inl ⟨_, _, _, dB.ex _ _ hvc hvm, rfl, atI_nat hm, by omega, by omega, ?_⟩
  refine ⟨fun i E M' => Dr c MB M' ∧ ∃ (d : D) (x : Option D), wfD w nms d = true ∧ depthD d ≤ 7 ∧ E = [some (.fl (ns.map D.int)), some (.ref p), some (.ref c), some (.int w), some (.ref q), some d, x, none, none, none, none], ⟨Dr.refl _, d, none, hd, by omega, rfl⟩, fun _ _ _ _ => trivial, ?_, ?_⟩
  · rintro i E M' e he ⟨hx, d, x, hd, h7, rfl⟩
    have dw := dw.go hx
    refine ⟨d, w, nms, rfl, hd, by omega, fun MC xC => ⟨fun hb => ?_, fun hb => ?_⟩⟩
    · have hb := of_decide_eq_true hb
      have dC := hx.trans (.ofExt xC)
      have dw := dw.go (.ofExt xC)
      refine ⟨by show 2 ≤ sizeLine; decide, fun u hu => ?_⟩
      have huc := dw.cne hu
      have hum : updM MC u (.lst [.str "not", .str "neg"]) u = some (.lst [.str "not", .str "neg"]) := updM_same
      have dD : Dr c MC (updM MC u (.lst [.str "not", .str "neg"])) := .new hu
      refine ⟨p, c, 2, rfl, by decide, dw.go dD, fun rD hrD ME dE => ?_⟩
      obtain ⟨o, ho, ho1⟩ := un_at rD hrD
      refine .inl ⟨_, _, _, dE.ex _ _ huc hum, rfl, atI_nat ho, by show 2 ≤ sizeLine; decide, ?_⟩
      refine ⟨(dC.trans dD).trans dE, .tup [.str o.nm, d], _, wfD_mk (o := o) (t := [d]) ho1.symm fun e he => by cases List.mem_singleton.mp he; exact hd, ?_, rfl⟩
      rw [depthD_tup]
      show depthDs [d] + 1 ≤ 7
      simp only [depthDs]
      omega
    · exact ⟨hx.trans (.ofExt xC), d, _, hd, h7, rfl⟩
  · rintro E M' ⟨hx, d, x, hd, h7, rfl⟩
    have dw := dw.go hx
    have hqm := hx.ex _ _ hqc hqm
    have ht := wf_tree d hd
    have hsz : sizeD d ≤ 100000 := Nat.le_trans (wf_size 7 d hd h7) (by decide)
    have h8 : depthD d < 8 := by omega
    refine ⟨d, rfl, ht, h8, d, w, nms, rfl, hd, h8, fun MC xC => ⟨_, _, rfl, ?_⟩⟩
    have dw := dw.go (.ofExt xC)
    have hqm := xC _ _ hqm
    refine ⟨fun hc => absurd hc (by simp), fun _ => ?_⟩
    refine ⟨d, rfl, ht, h8, d, w, nms, rfl, hd, h8, fun MD xD => ⟨_, _, rfl, ?_⟩⟩
    have dw := dw.go (.ofExt xD)
    have hqm := xD _ _ hqm
    refine ⟨fun hc => absurd hc (by simp), fun _ => ?_⟩
    refine ⟨d, rfl, ht, h8, hsz, fun t ME ht0 xE htm => ?_⟩
    have dw := dw.go (.ofExt xE)
    have hqm := xE _ _ hqm
    refine .inl ⟨_, htm, ?_⟩
    walk_at "if"
    refine ⟨d, rfl, ht, h8, hsz, fun t2 MF ht2 xF htm2 => ?_⟩
    have dw := dw.go (.ofExt xF)
    have hqm := xF _ _ hqm
    have hnd : ∀ s ∈ namesD d, PyData.strOk s = true := fun s hs => hnok s (names_wf hd s hs)
    refine ne_strs hnd (xF _ _ htm) htm2 ?_
    walk_at "if"
    refine ⟨d, w, q, nms, rfl, by omega, hd, h8, hqm, fun MG xG => ?_⟩
    have dw := dw.go (.ofExt xG)
    have hqm := xG _ _ hqm
    walk_at "if"
    refine ⟨p, c, d, w, nms, rfl, by omega, dw, hd, fun hm => absurd (hin _ hm) (by decide +kernel), fun hm => absurd (hin _ hm) (by decide +kernel), fun e hbad MH dH => ?_⟩
    have dw := dw.go dH
    have hqm := dH.ex _ _ hqc hqm
    refine ⟨_, hqm, fun a1 ha1 => ?_⟩
    have xI : Ext MH (updM MH a1 (.lst (nms.map .str))) := Ext.new ha1
    refine ⟨e, .ref a1, w, 40, nms, rfl, .inr ⟨a1, rfl, updM_same⟩, hbad.1, by omega, ?_⟩
    have dw := dw.go (.ofExt xI)
    have hqm := xI _ _ hqm
    generalize updM MH a1 (.lst (nms.map .str)) = MI at *
    have hfd : formD w nms 40 e = false := by unfold formD; rw [hbad.2 6]; rfl
    refine ⟨_, false, rfl, ?_⟩
    rw [hfd]
    walk_at "if"
    refine fun a ha => ⟨updM_same, [(.inr "other", .int 0)], rfl, by decide, ?_⟩
    have ham : updM (updM MI a (.dk [])) a (.dk (mergeD [] [(.inr "other", .int 0)])) a = some (.dk [(.inr "other", .int 0)]) := updM_same
    have xa : Ext MI (updM (updM MI a (.dk [])) a (.dk (mergeD [] [(.inr "other", .int 0)]))) := (Ext.new ha).mut ha
    generalize updM (updM MI a (.dk [])) a (.dk (mergeD [] [(.inr "other", .int 0)])) = Ma at ham xa ⊢
    refine fun b hb => ⟨updM_same, [(.inr "other", .int 1)], rfl, by decide, ?_⟩
    have hbm : updM (updM Ma b (.dk [])) b (.dk (mergeD [] [(.inr "other", .int 1)])) b = some (.dk [(.inr "other", .int 1)]) := updM_same
    have xb : Ext Ma (updM (updM Ma b (.dk [])) b (.dk (mergeD [] [(.inr "other", .int 1)]))) := (Ext.new hb).mut hb
    generalize updM (updM Ma b (.dk [])) b (.dk (mergeD [] [(.inr "other", .int 1)])) = Mb at hbm xb ⊢
    have hb0 := xa.back hb
    have hac := dw.cne ha
    have hbc := dw.cne hb0
    have hab : a ≠ b := fun z => by subst z; rw [hb] at ham; cases ham
    have hB := Nat.two_pow_pos w
    have hpow : (1 : Int) * 2 ^ (w : Int).toNat = ((2 ^ w : Nat) : Int) := pow_cast w
    have hcp : CPow 1 (w : Int) := cpow w (by omega) (by decide)
    have hqI := hqm
    refine .inl ⟨_, xb _ _ (xa _ _ hqI), ?_⟩
    rw [List.length_map]
    refine ⟨by omega, by omega, ?_⟩
    refine ⟨fun i E M' => Dr c MI M' ∧ (∃ (kv1 : List (Key × D)) (ρ : Str → Nat), M' a = some (.dk kv1) ∧ kv1.length ≤ 1 + i ∧ ∀ s ∈ nms.take i, valD kv1 (.inr s) = some (.int ((ρ s : Nat) : Int)) ∧ ρ s < 2 ^ w) ∧ (∃ kv2 : List (Key × D), M' b = some (.dk kv2) ∧ kv2.length ≤ 1 + i ∧ KeysN kv2 ∧ ∀ kv ∈ kv2, OkD 1 kv.2) ∧ ∃ x : Option D, E = [some (.fl (ns.map D.int)), some (.ref p), some (.ref c), some (.int w), some (.ref q), some d, x, some (.ref t), some (.ref a), some (.ref b), none], ⟨.ofExt (xa.trans xb), ⟨_, fun _ => 0, xb _ _ ham, by show 1 ≤ 1; decide, by simp⟩, ⟨_, hbm, by show 1 ≤ 1; decide, by unfold KeysN; simp, fun kv hkv => by cases List.mem_singleton.mp hkv; exact ok_int _ _⟩, x, rfl⟩, fun _ _ _ _ => trivial, ?_, ?_⟩
    · rintro i E M' e he ⟨hx, ⟨kv1, ρ, ha1, hl1, hv1⟩, ⟨kv2, hb2, hl2, hk2, ho2⟩, x, rfl⟩
      obtain ⟨hi, rfl⟩ := rng_at he
      have hi : i < nms.length := by have : i < ((nms.length : Nat) : Int).toNat := hi; omega
      rw [Int.zero_add]
      have hsat : nms[i]? = some nms[i] := List.getElem?_eq_getElem hi
      have hsm : nms[i] ∈ nms := List.getElem_mem hi
      generalize nms[i] = s at hsat hsm
      have hsD : (nms.map D.str)[i]? = some (.str s) := by rw [List.getElem?_map, hsat]; rfl
      refine ⟨hcp, p, c, 2 ^ w, by show [_, _, D.int (1 * 2 ^ (w : Int).toNat)] = _; rw [hpow], hB, dw.go hx, fun v hv MJ dJ => ?_⟩
      have dJ2 := hx.trans dJ
      refine .inl ⟨_, _, _, dJ2.ex _ _ hqc hqI, rfl, atI_nat hsD, .inr ⟨kv1, .inr s, dJ.ex _ _ hac ha1, rfl, tolist (by omega), ?_⟩⟩
      have hbJ : updM MJ a (.dk (putD kv1 (.inr s) (.int v))) b = some (.dk kv2) := by rw [updM_ne (Ne.symm hab)]; exact dJ.ex _ _ hbc hb2
      have haJ : updM MJ a (.dk (putD kv1 (.inr s) (.int v))) a = some (.dk (putD kv1 (.inr s) (.int v))) := updM_same
      have dK := dJ2.mut dw.cur ha (o := .dk (putD kv1 (.inr s) (.int v)))
      generalize updM MJ a (.dk (putD kv1 (.inr s) (.int v))) = MK at hbJ haJ dK ⊢
      have hA : ∀ M' : Mm, M' a = some (.dk (putD kv1 (.inr s) (.int v))) → ∃ (kv1 : List (Key × D)) (ρ : Str → Nat), M' a = some (.dk kv1) ∧ kv1.length ≤ 1 + (i + 1) ∧ ∀ s ∈ nms.take (i + 1), valD kv1 (.inr s) = some (.int ((ρ s : Nat) : Int)) ∧ ρ s < 2 ^ w := fun M' h => by
        refine ⟨_, fun s' => if s' = s then v else ρ s', h, by have := putD_len kv1 (.inr s) (.int v); omega, fun s' hs' => ?_⟩
        rw [putD_val]
        rw [take_snoc hsat] at hs'
        by_cases es : s' = s
        · subst es
          rw [if_pos rfl]
          show _ = some (D.int (((if s' = s' then v else ρ s') : Nat) : Int)) ∧ (if s' = s' then v else ρ s') < 2 ^ w
          rw [if_pos rfl]; exact ⟨rfl, hv⟩
        · have hs' : s' ∈ nms.take i := by
            rcases List.mem_append.mp hs' with hs' | hs'
            · exact hs'
            · exact absurd (List.mem_singleton.mp hs') es
          rw [if_neg (fun z => es (by cases z; rfl))]
          show _ = some (D.int (((if s' = s then v else ρ s') : Nat) : Int)) ∧ (if s' = s then v else ρ s') < 2 ^ w
          rw [if_neg es]
          exact hv1 s' hs'
      refine ⟨p, c, 3, rfl, by decide, dw.go dK, fun u hu ML dL => ⟨fun hc => ?_, fun hc => ?_⟩⟩
      · have dL2 := dK.trans dL
        have hqL := dL2.ex _ _ hqc hqI
        obtain ⟨s', hs', hat'⟩ := prev_at hi
        refine .inl ⟨_, _, _, hqL, rfl, hat', by show 3 ≤ sizeLine; decide, .inl ⟨_, _, _, hqL, rfl, hat', by show 3 ≤ sizeLine; decide, fun l hl => ?_⟩⟩
        have hlc := (dw.go dL2).cne hl
        have hlm : updM ML l (.lst [.tup [.str "xor", .str "other", .str s'], .str s', .int 1]) l = some (.lst [.tup [.str "xor", .str "other", .str s'], .str s', .int 1]) := updM_same
        have dN := Dr.new (c := c) (o := .lst [.tup [.str "xor", .str "other", .str s'], .str s', .int 1]) hl
        have hokl := three_ok (hnok s' hs')
        have hll : ([.tup [.str "xor", .str "other", .str s'], .str s', .int 1] : List D).length = 3 := rfl
        generalize ([.tup [.str "xor", .str "other", .str s'], .str s', .int 1] : List D) = li at hlm dN hokl hll ⊢
        refine ⟨p, c, 3, rfl, by decide, (dw.go dL2).go dN, fun r3 hr3 MO dO => ?_⟩
        have hr3 : r3 < li.length := by rw [hll]; exact hr3
        have hvat : li[r3]? = some li[r3] := List.getElem?_eq_getElem hr3
        have hvok := hokl _ (List.getElem_mem hr3)
        generalize li[r3] = vv at hvat hvok
        have dO2 := (dL2.trans dN).trans dO
        refine .inl ⟨_, _, _, dO.ex _ _ hlc hlm, rfl, atI_nat hvat, .inl ⟨_, _, _, dO2.ex _ _ hqc hqI, rfl, atI_nat hsD, .inr ⟨kv2, .inr s, dO.ex _ _ hbc (dN.ex _ _ hbc (dL.ex _ _ hbc hbJ)), rfl, tolist (by omega), ?_⟩⟩⟩
        refine ⟨dO2.mut dw.cur hb0, hA _ (by rw [updM_ne hab]; exact dO.ex _ _ hac (dN.ex _ _ hac (dL.ex _ _ hac haJ))), ⟨_, updM_same, by have := putD_len kv2 (.inr s) vv; omega, putD_nodup hk2, fun kv hkv => ?_⟩, _, rfl⟩
        rcases putD_mem hkv with hkv | hkv
        · exact ho2 kv hkv
        · rw [hkv]; exact hvok
      · exact ⟨dK.trans dL, hA _ (dL.ex _ _ hac haJ), ⟨kv2, dL.ex _ _ hbc hbJ, by omega, hk2, ho2⟩, _, rfl⟩
    · rintro E M' ⟨hx, ⟨kv1, ρ, ha1, hl1, hv1⟩, ⟨kv2, hb2, hl2, hk2, ho2⟩, x, rfl⟩
      rw [rng_len] at hv1
      have hv1 : ∀ s ∈ nms, valD kv1 (.inr s) = some (.int ((ρ s : Nat) : Int)) ∧ ρ s < 2 ^ w := fun s hs => hv1 s (by
        rw [show ((nms.length : Nat) : Int).toNat = nms.length by omega, List.take_length]; exact hs)
      refine ⟨a, kv1, rfl, ha1, fun e he => ?_⟩
      have xe : Ext M' (updM M' e (.dk kv1)) := Ext.new he
      refine ⟨d, w, e, ρ, nms, rfl, h1, h4, hd, h8, ⟨kv1, updM_same, hv1⟩, fun MO xO => ?_⟩
      have xe := xe.trans xO
      refine ⟨d, w, a, ρ, nms, rfl, h1, h4, hd, h8, ⟨kv1, xe _ _ ha1, hv1⟩, fun MP xP => ⟨_, _, rfl, ?_⟩⟩
      have xe := xe.trans xP
      refine ⟨fun hc => absurd hc (by simp), fun _ => ?_⟩
      have hbP := xe _ _ hb2
      refine ⟨b, kv2, rfl, hbP, fun g hg => ?_⟩
      have hgm : updM MP g (.dk kv2) g = some (.dk kv2) := updM_same
      have hbg : updM MP g (.dk kv2) b = some (.dk kv2) := Ext.new hg _ _ hbP
      generalize updM MP g (.dk kv2) = MQ at hgm hbg ⊢
      have hfull := wf_full 7 d hd h7
      refine ⟨d, g, kv2, rfl, hfull, h8, hsz, hgm, fun MR xR => ?_⟩
      refine ⟨d, b, kv2, rfl, hfull, h8, hsz, xR _ _ hbg, fun MS xS => ?_⟩
      have hok := put_ok (f := fun s => valD kv2 (.inr s)) hnok (fun s v hs => by
        obtain ⟨kv, h1, h2⟩ := valD_memb hs
        exact h2 ▸ ho2 kv h1) 7 d hd h7
      refine eq_same hok (by decide) ⟨fun _ => ?_, fun hc => absurd hc (by decide)⟩
      have xRS := xR.trans xS
      exact .inr ⟨⟨g, b, kv2, kv2, rfl, rfl, xRS _ _ hgm, xRS _ _ hbg, rfl, fun kv hkv => ⟨valD_self hk2 kv hkv, (ho2 kv hkv).pu, (ho2 kv hkv).shaped (by decide)⟩⟩, hQ _⟩
end Rd

set_option Elab.async false
set_option linter.all false
set_option autoImplicit false
set_option maxRecDepth 100000
set_option maxHeartbeats 4000000
/-! readings: texts that are valid -/
namespace Rd
open PySem PySem.Spec PyProof.Rows L2 DH Bd
local macro_rules | `(tactic| walk_at "if") => `(tactic| first | (refine ⟨fun _ => ?_, fun hc => absurd hc (by decide)⟩) | (refine ⟨fun hc => absurd hc (by decide), fun _ => ?_⟩))
structure TX where
  w : Nat
  ins : List Str
  needs : List D
  lets : List (Str × D)
  outs : List (Nat × D)
def TX.known (t : TX) (i : Nat) : List Str := t.ins ++ (t.lets.take i).map Prod.fst
def okF (w : Nat) (nms : List Str) (d : D) : Prop := wfD w nms d = true ∧ depthD d ≤ 6 ∧ sizeD d ≤ 15
def goodN (s : Str) : Prop := (isNameS s && !isOpS s) = true ∧ s.length ≤ 100
structure TX.Ok (t : TX) : Prop where
  w1 : 1 ≤ t.w
  w4 : t.w ≤ 4
  nd : t.ins.Nodup
  nm : ∀ s ∈ t.ins, goodN s
  i4 : t.ins.length ≤ 4
  bits : t.w * t.ins.length ≤ 8
  n2 : t.needs.length ≤ 2
  nf : ∀ d ∈ t.needs, okF t.w t.ins d
  l60 : t.lets.length ≤ 60
  ln : ∀ (i : Nat) (p : Str × D), t.lets[i]? = some p → goodN p.1 ∧ ¬ p.1 ∈ t.known i ∧ okF t.w (t.known i) p.2
  o4 : t.outs.length ≤ 4
  on : ∀ (i : Nat) (p : Nat × D), t.outs[i]? = some p → p.1 ≤ 3 ∧ okF t.w (t.known t.lets.length) p.2
  oo : ∀ (i : Nat) (p q : Nat × D), t.outs[i]? = some p → t.outs[i + 1]? = some q → p.1 < q.1
def letD (l : List (Str × D)) : List D := l.map fun p => .tup [.str p.1, p.2]
def outD (l : List (Nat × D)) : List D := l.map fun p => .tup [.int (p.1 : Nat), p.2]
def TX.fs (t : TX) : List (Str × D) := [("width", .int t.w), ("inputs", .tup (t.ins.map .str)), ("needs", .tup t.needs), ("lets", .tup (letD t.lets)), ("outs", .tup (outD t.outs))]
def ClT (cl : CF) (C : Addr) : Prop := ∀ f ∈ (["width", "inputs", "needs", "lets", "outs"] : List Str), cl C f
structure TxM (cl : CF) (C : Addr) (M : Mm) (a : Addr) (t : TX) : Prop where
  at_ : M a = some (.ins C t.fs)
  cl : ClT cl C
theorem TxM.ext {cl : CF} {C a : Addr} {M M' : Mm} {t : TX} (h : TxM cl C M a t) (e : Ext M M') : TxM cl C M' a t := ⟨e _ _ h.at_, h.cl⟩
theorem letD_at {l : List (Str × D)} {i : Nat} {p : Str × D} (h : l[i]? = some p) : (letD l)[i]? = some (.tup [.str p.1, p.2]) := by unfold letD; rw [List.getElem?_map, h]; rfl
theorem outD_at {l : List (Nat × D)} {i : Nat} {p : Nat × D} (h : l[i]? = some p) : (outD l)[i]? = some (.tup [.int (p.1 : Nat), p.2]) := by unfold outD; rw [List.getElem?_map, h]; rfl
theorem getE {α : Type} {l : List α} {i : Nat} (h : i < l.length) : l[i]? = some l[i] := List.getElem?_eq_getElem h
theorem cutTo (α : Type) (l : List α) (i : Nat) (h : i ≤ l.length) : cutL α l none (some (i : Int)) = l.take i := by
  unfold cutL HT.sIx
  have : ¬ ((i : Int) < 0) := by omega
  simp [this]
theorem nodup_not_take {l : List Str} {i : Nat} {s : Str} (hn : l.Nodup) (h : l[i]? = some s) : ¬ s ∈ l.take i := by
  intro hm
  obtain ⟨j, hj, e⟩ := List.mem_iff_getElem.mp hm
  rw [List.length_take] at hj
  rw [List.getElem_take] at e
  have hi := lt_at h
  rw [List.getElem?_eq_getElem hi] at h
  have h := Option.some.inj h
  rw [List.Nodup, List.pairwise_iff_getElem] at hn
  exact hn j i (by omega) hi (by omega) (e.trans h.symm)
def sp_bad_input (cl : CF) (C : Addr) : DSp := fun ds M Q _ => ∃ (a : Addr) (t : TX) (i : Nat), ds = [.ref a, .int i] ∧ TxM cl C M a t ∧ t.Ok ∧ i < t.ins.length ∧ Q (.bl false) M
theorem r_bad_input (cl : CF) (C : Addr) : ∀ ds M Q E, sp_bad_input cl C ds M Q E → b_bad_input cl sp_is_value_name (En Q) (startD 3 ds) M := by
  rintro ds M Q E ⟨a, t, i, rfl, tx, ok, hi, h⟩
  have hat := getE hi
  have hm := List.getElem_mem hi
  generalize t.ins[i] = s at hat hm
  have hg := ok.nm s hm
  have hiN : ((t.ins.map D.str))[i]? = some (.str s) := by rw [List.getElem?_map, hat]; rfl
  refine ⟨_, _, _, _, rfl, tx.at_, tx.cl _ (by simp), rfl, ?_⟩
  refine ⟨.str s, atI_nat hiN, ?_⟩
  refine ⟨s, rfl, by have := hg.2; omega, ?_⟩
  rw [hg.1]
  walk_at "if"
  refine ⟨_, _, _, _, rfl, tx.at_, tx.cl _ (by simp), rfl, ?_⟩
  have ec : cutL D (t.ins.map D.str) none (some (i : Int)) = (t.ins.take i).map D.str := by rw [cutTo D _ i (by rw [List.length_map]; omega), List.map_take]
  refine ⟨rfl, by rw [ec]; exact flat_strs _, ?_⟩
  rw [ec, inD_strs, decide_eq_false (nodup_not_take ok.nd hat)]
  walk_at "if"
  have hi4 := ok.i4
  refine ⟨fun hc => absurd (of_decide_eq_true hc) (by omega), fun _ => ?_⟩
  refine ⟨_, _, _, _, rfl, tx.at_, tx.cl _ (by simp), rfl, ?_⟩
  have h4 := ok.w4
  refine ⟨.inl ⟨by omega, by omega⟩, ?_⟩
  refine qb h (decide_eq_false ?_)
  have h1 : t.w * (i + 1) ≤ t.w * t.ins.length := Nat.mul_le_mul_left _ hi
  have h2 := ok.bits
  have h3 : ((t.w * (i + 1) : Nat) : Int) = (t.w : Int) * ((i : Int) + 1) := by push_cast; rfl
  omega
theorem lets_names {M : Mm} (l : List (Str × D)) : True := trivial
def sp_bad_let (cl : CF) (C : Addr) : DSp := fun ds M Q _ => ∃ (a : Addr) (t : TX) (i : Nat), ds = [.ref a, .int i] ∧ TxM cl C M a t ∧ t.Ok ∧ i < t.lets.length ∧ RetV M Q (.bl false)
theorem r_bad_let (cl : CF) (C : Addr) : ∀ ds M Q E, sp_bad_let cl C ds M Q E → b_bad_let cl sp_is_value_name sp_is_formula (En Q) (startD 6 ds) M := by
  rintro ds M Q E ⟨a, t, i, rfl, tx, ok, hi, h⟩
  have hat := getE hi
  generalize t.lets[i] = p at hat
  obtain ⟨hg, hn, hf⟩ := ok.ln i p hat
  have h60 := ok.l60
  have hi4 := ok.i4
  have h4 := ok.w4
  refine ⟨_, _, _, _, rfl, tx.at_, tx.cl _ (by simp), rfl, ?_⟩
  refine ⟨_, atI_nat (letD_at hat), rfl, ?_⟩
  refine ⟨_, _, _, _, rfl, tx.at_, tx.cl _ (by simp), rfl, ?_⟩
  refine fun q hq => ?_
  have e1 : Ext M (updM M q (.lst (t.ins.map .str))) := Ext.new hq
  have hqm : updM M q (.lst (t.ins.map .str)) q = some (.lst (t.ins.map .str)) := updM_same
  generalize updM M q (.lst (t.ins.map .str)) = M1 at e1 hqm ⊢
  refine ⟨_, _, _, _, rfl, (tx.ext e1).at_, tx.cl _ (by simp), rfl, ?_⟩
  have ec : cutL D (letD t.lets) none (some (i : Int)) = letD (t.lets.take i) := by
    rw [cutTo D _ i (by unfold letD; rw [List.length_map]; omega)]
    unfold letD
    rw [List.map_take]
  refine fun r hr => ?_
  refine ⟨fun j acc M' => Ext M1 M' ∧ M' r = some (.lst acc) ∧ acc = ((t.lets.take i).take j).map (fun p => D.str p.1), ⟨Ext.new hr, updM_same, rfl⟩, fun _ _ _ _ => trivial, ?_, ?_⟩
  · rintro j acc M' d hd ⟨hx, hr2, rfl⟩
    rw [ec] at hd
    unfold letD at hd
    rw [List.getElem?_map] at hd
    obtain ⟨p', hp', rfl⟩ := Option.map_eq_some_iff.mp hd
    refine ⟨fun _ => ⟨_, at0, hr2, tolist (by rw [List.length_map, List.length_take, List.length_take]; omega), hx.mut hr, updM_same, ?_⟩, fun hc => absurd hc (by decide)⟩
    rw [take_snoc hp', List.map_append]; rfl
  · rintro acc M' ⟨hx, hr2, rfl⟩
    rw [ec, show (letD (t.lets.take i)).length = (t.lets.take i).length by unfold letD; rw [List.length_map], List.take_length] at hr2
    refine ⟨_, _, hx _ _ hqm, hr2, by rw [List.length_map, List.length_map, List.length_take]; exact Nat.le_of_lt (tolist (by omega)), fun s hs => ?_⟩
    have e2 := (e1.trans hx).trans (Ext.new (o := .lst (t.ins.map D.str ++ (t.lets.take i).map (fun p => D.str p.1))) hs)
    have hk : t.ins.map D.str ++ (t.lets.take i).map (fun p => D.str p.1) = (t.known i).map D.str := by unfold TX.known; rw [List.map_append, List.map_map]; rfl
    have hsm : updM M' s (.lst (t.ins.map D.str ++ (t.lets.take i).map (fun p => D.str p.1))) s = some (.lst ((t.known i).map .str)) := by rw [updM_same, hk]
    generalize updM M' s (.lst (t.ins.map D.str ++ (t.lets.take i).map (fun p => D.str p.1))) = M2 at e2 hsm ⊢
    refine ⟨p.1, rfl, by have := hg.2; omega, ?_⟩
    rw [hg.1]
    walk_at "if"
    refine .inl ⟨_, hsm, rfl, flat_strs _, ?_⟩
    rw [inD_strs, decide_eq_false hn]
    walk_at "if"
    refine ⟨fun hc => absurd (of_decide_eq_true hc) (by omega), fun _ => ?_⟩
    refine ⟨_, _, _, _, rfl, (tx.ext e2).at_, tx.cl _ (by simp), rfl, ?_⟩
    refine ⟨p.2, .ref s, t.w, 15, t.known i, rfl, .inr ⟨s, rfl, hsm⟩, wf_tree _ hf.1, by omega, ?_⟩
    refine qb (h M2 e2) ?_
    rw [form_wf hf.1, decide_eq_true (show (sizeD p.2 : Int) ≤ 15 by have := hf.2.2; omega), decide_eq_true (show (depthD p.2 : Int) ≤ 6 by have := hf.2.1; omega)]
    rfl
def sp_bad_out (cl : CF) (C : Addr) : DSp := fun ds M Q _ => ∃ (a : Addr) (t : TX) (i : Nat), ds = [.ref a, .int i] ∧ TxM cl C M a t ∧ t.Ok ∧ i < t.outs.length ∧ RetV M Q (.bl false)
theorem r_bad_out (cl : CF) (C : Addr) : ∀ ds M Q E, sp_bad_out cl C ds M Q E → b_bad_out cl sp_is_formula (En Q) (startD 6 ds) M := by
  rintro ds M Q E ⟨a, t, i, rfl, tx, ok, hi, h⟩
  have hat := getE hi
  generalize t.outs[i] = p at hat
  obtain ⟨hg, hf⟩ := ok.on i p hat
  have h60 := ok.l60
  have hi4 := ok.i4
  have h4 := ok.w4
  refine ⟨_, _, _, _, rfl, tx.at_, tx.cl _ (by simp), rfl, ?_⟩
  refine ⟨_, atI_nat (outD_at hat), rfl, ?_⟩
  refine ⟨_, _, _, _, rfl, tx.at_, tx.cl _ (by simp), rfl, ?_⟩
  refine fun q hq => ?_
  have e1 : Ext M (updM M q (.lst (t.ins.map .str))) := Ext.new hq
  have hqm : updM M q (.lst (t.ins.map .str)) q = some (.lst (t.ins.map .str)) := updM_same
  generalize updM M q (.lst (t.ins.map .str)) = M1 at e1 hqm ⊢
  refine ⟨_, _, _, _, rfl, (tx.ext e1).at_, tx.cl _ (by simp), rfl, ?_⟩
  refine fun r hr => ?_
  refine ⟨fun j acc M' => Ext M1 M' ∧ M' r = some (.lst acc) ∧ acc = (t.lets.take j).map (fun p => D.str p.1), ⟨Ext.new hr, updM_same, rfl⟩, fun _ _ _ _ => trivial, ?_, ?_⟩
  · rintro j acc M' d hd ⟨hx, hr2, rfl⟩
    unfold letD at hd
    rw [List.getElem?_map] at hd
    obtain ⟨p', hp', rfl⟩ := Option.map_eq_some_iff.mp hd
    refine ⟨fun _ => ⟨_, at0, hr2, tolist (by rw [List.length_map, List.length_take]; omega), hx.mut hr, updM_same, ?_⟩, fun hc => absurd hc (by decide)⟩
    rw [take_snoc hp', List.map_append]; rfl
  · rintro acc M' ⟨hx, hr2, rfl⟩
    rw [show (letD t.lets).length = t.lets.length by unfold letD; rw [List.length_map]] at hr2
    refine ⟨_, _, hx _ _ hqm, hr2, by rw [List.length_map, List.length_map, List.length_take]; exact Nat.le_of_lt (tolist (by omega)), fun s hs => ?_⟩
    have e2 := (e1.trans hx).trans (Ext.new (o := .lst (t.ins.map D.str ++ (t.lets.take t.lets.length).map (fun p => D.str p.1))) hs)
    have hk : t.ins.map D.str ++ (t.lets.take t.lets.length).map (fun p => D.str p.1) = (t.known t.lets.length).map D.str := by unfold TX.known; rw [List.map_append, List.map_map]; rfl
    have hsm : updM M' s (.lst (t.ins.map D.str ++ (t.lets.take t.lets.length).map (fun p => D.str p.1))) s = some (.lst ((t.known t.lets.length).map .str)) := by rw [updM_same, hk]
    generalize updM M' s (.lst (t.ins.map D.str ++ (t.lets.take t.lets.length).map (fun p => D.str p.1))) = M2 at e2 hsm ⊢
    have fin : Q (.bl (!formD t.w (t.known t.lets.length) 15 p.2)) M2 := by
      refine qb (h M2 e2) ?_
      rw [form_wf hf.1, decide_eq_true (show (sizeD p.2 : Int) ≤ 15 by have := hf.2.2; omega), decide_eq_true (show (depthD p.2 : Int) ≤ 6 by have := hf.2.1; omega)]
      rfl
    have rest : dFld cl "width" (dVar 0) [some (.ref a), some (.int (i : Int)), some (.int (p.1 : Nat)), some p.2, some (.ref s), none] M2 fun x M3 => sp_is_formula [p.2, x, .ref s, .int 15] M3 (fun d M1 => match d with
        | .bl b => Q (.bl (!b)) M1
        | _ => False) EX0 := by
      refine ⟨_, _, _, _, rfl, (tx.ext e2).at_, tx.cl _ (by simp), rfl, ?_⟩
      exact ⟨p.2, .ref s, t.w, 15, t.known t.lets.length, rfl, .inr ⟨s, rfl, hsm⟩, wf_tree _ hf.1, by omega, fin⟩
    refine ⟨fun _ => ?_, fun hc => absurd (of_decide_eq_false hc) (by omega)⟩
    refine ⟨fun hc => absurd hc (by simp; omega), fun _ => ?_⟩
    refine ⟨fun h0 => ?_, fun _ => ⟨fun hc => absurd hc (by decide), fun _ => rest⟩⟩
    have h0 := of_decide_eq_true h0
    refine ⟨_, _, _, _, rfl, (tx.ext e2).at_, tx.cl _ (by simp), rfl, ?_⟩
    match i, hi, hat, h0 with
    | 0, _, _, h0 => exact absurd h0 (by decide)
    | i + 1, hi, hat, _ =>
      have hat2 := getE (show i < t.outs.length by omega)
      generalize t.outs[i] = p' at hat2
      have hlt := ok.oo i p' p hat2 hat
      refine ⟨.tup [.int (p'.1 : Nat), p'.2], ?_, _, at0, fun hc => absurd (of_decide_eq_true hc) (by omega), fun _ => rest⟩
      rw [show (((i + 1 : Nat) : Int) - 1) = (i : Int) by omega]
      exact atI_nat (outD_at hat2)
end Rd

set_option Elab.async false
set_option linter.all false
set_option autoImplicit false
set_option maxRecDepth 100000
set_option maxHeartbeats 4000000
/-! readings: a text is made, its rows, its outputs -/
namespace Rd
open PySem PySem.Spec PyProof.Rows L2 DH Bd
local macro_rules | `(tactic| walk_at "if") => `(tactic| first | (refine ⟨fun _ => ?_, fun hc => absurd hc (by decide)⟩) | (refine ⟨fun hc => absurd hc (by decide), fun _ => ?_⟩))
theorem form_ok {w : Nat} {nms : List Str} {d : D} (hf : okF w nms d) : formD w nms 15 d = true := by
  rw [form_wf hf.1, decide_eq_true (show (sizeD d : Int) ≤ 15 by have := hf.2.2; omega), decide_eq_true (show (depthD d : Int) ≤ 6 by have := hf.2.1; omega)]
  rfl
theorem letD_len (l : List (Str × D)) : (letD l).length = l.length := by unfold letD; rw [List.length_map]
theorem outD_len (l : List (Nat × D)) : (outD l).length = l.length := by unfold outD; rw [List.length_map]
def sp_first_bad_line (cl : CF) (C : Addr) : DSp := fun ds M Q _ => ∃ (a : Addr) (t : TX), ds = [.ref a] ∧ TxM cl C M a t ∧ t.Ok ∧ RetV M Q (.int 0)
theorem r_first_bad_line (cl : CF) (C : Addr) : ∀ ds M Q E, sp_first_bad_line cl C ds M Q E → b_first_bad_line cl (sp_bad_input cl C) sp_is_formula (sp_bad_let cl C) (sp_bad_out cl C) (En Q) (startD 3 ds) M := by
  rintro ds M Q E ⟨a, t, rfl, tx, ok, h⟩
  have w1 := ok.w1
  have w4 := ok.w4
  have i4 := ok.i4
  have n2 := ok.n2
  have l60 := ok.l60
  have o4 := ok.o4
  have q1 : (t.ins.map D.str).length = t.ins.length := List.length_map _
  have q2 := letD_len t.lets
  have q3 := outD_len t.outs
  refine ⟨_, _, _, _, rfl, tx.at_, tx.cl _ (by simp), rfl, ?_⟩
  refine ⟨fun _ => ⟨fun hc => absurd hc (by simp; omega), fun _ => ?_⟩, fun hc => absurd (of_decide_eq_false hc) (by omega)⟩
  refine ⟨_, _, _, _, rfl, tx.at_, tx.cl _ (by simp), rfl, ?_⟩
  refine ⟨by omega, by omega, ?_⟩
  refine ⟨fun i E M' => Ext M M' ∧ ∃ l : Int, ∃ x, E = [some (.ref a), some (.int l), x], ⟨Ext.refl _, 1, none, rfl⟩, fun _ _ _ _ => trivial, ?_, ?_⟩
  · rintro i E M' d hd ⟨hx, l, x, rfl⟩
    obtain ⟨hi, rfl⟩ := rng_at hd
    have hi : i < t.ins.length := by have : i < (((t.ins.map D.str).length : Nat) : Int).toNat := hi; omega
    rw [Int.zero_add]
    refine ⟨a, t, i, rfl, tx.ext hx, ok, hi, ?_⟩
    walk_at "if"
    exact ⟨hx, _, _, rfl⟩
  rintro E M' ⟨hx, l, x, rfl⟩
  refine ⟨_, _, _, _, rfl, (tx.ext hx).at_, tx.cl _ (by simp), rfl, ?_⟩
  refine ⟨by omega, by omega, ?_⟩
  refine ⟨fun i E M' => Ext M M' ∧ ∃ l : Int, ∃ x, E = [some (.ref a), some (.int l), x], ⟨hx, _, _, rfl⟩, fun _ _ _ _ => trivial, ?_, ?_⟩
  · rintro i E M' d hd ⟨hx, l, x, rfl⟩
    obtain ⟨hi, rfl⟩ := rng_at hd
    have hi : i < t.needs.length := by have : i < ((t.needs.length : Nat) : Int).toNat := hi; omega
    rw [Int.zero_add]
    have hat := getE hi
    have hf := ok.nf _ (List.getElem_mem hi)
    generalize t.needs[i] = d at hat hf
    refine ⟨fun hc => absurd (of_decide_eq_true hc) (by omega), fun _ => ?_⟩
    refine ⟨_, _, _, _, rfl, (tx.ext hx).at_, tx.cl _ (by simp), rfl, ?_⟩
    refine ⟨_, atI_nat hat, ?_⟩
    refine ⟨_, _, _, _, rfl, (tx.ext hx).at_, tx.cl _ (by simp), rfl, ?_⟩
    refine ⟨_, _, _, _, rfl, (tx.ext hx).at_, tx.cl _ (by simp), rfl, ?_⟩
    refine ⟨d, .tup (t.ins.map .str), t.w, 15, t.ins, rfl, .inl rfl, wf_tree _ hf.1, by omega, ?_⟩
    rw [form_ok hf]
    walk_at "if"
    exact ⟨hx, _, _, rfl⟩
  rintro E M' ⟨hx, l, x, rfl⟩
  refine ⟨_, _, _, _, rfl, (tx.ext hx).at_, tx.cl _ (by simp), rfl, ?_⟩
  refine ⟨by omega, by omega, ?_⟩
  refine ⟨fun i E M' => Ext M M' ∧ ∃ l : Int, ∃ x, E = [some (.ref a), some (.int l), x], ⟨hx, _, _, rfl⟩, fun _ _ _ _ => trivial, ?_, ?_⟩
  · rintro i E M' d hd ⟨hx, l, x, rfl⟩
    obtain ⟨hi, rfl⟩ := rng_at hd
    have hi : i < t.lets.length := by have : i < (((letD t.lets).length : Nat) : Int).toNat := hi; omega
    rw [Int.zero_add]
    refine ⟨a, t, i, rfl, tx.ext hx, ok, hi, fun M2 e2 => ?_⟩
    walk_at "if"
    exact ⟨hx.trans e2, _, _, rfl⟩
  rintro E M' ⟨hx, l, x, rfl⟩
  refine ⟨_, _, _, _, rfl, (tx.ext hx).at_, tx.cl _ (by simp), rfl, ?_⟩
  refine ⟨by omega, by omega, ?_⟩
  refine ⟨fun i E M' => Ext M M' ∧ ∃ l : Int, ∃ x, E = [some (.ref a), some (.int l), x], ⟨hx, _, _, rfl⟩, fun _ _ _ _ => trivial, ?_, ?_⟩
  · rintro i E M' d hd ⟨hx, l, x, rfl⟩
    obtain ⟨hi, rfl⟩ := rng_at hd
    have hi : i < t.outs.length := by have : i < (((outD t.outs).length : Nat) : Int).toNat := hi; omega
    rw [Int.zero_add]
    refine ⟨a, t, i, rfl, tx.ext hx, ok, hi, fun M2 e2 => ?_⟩
    walk_at "if"
    exact ⟨hx.trans e2, _, _, rfl⟩
  rintro E M' ⟨hx, l, x, rfl⟩
  exact h M' hx
/-! ### making a text -/
/-- all but a stays -/
def But (a : Addr) (M M' : Mm) : Prop := ∀ b o, b ≠ a → M b = some o → M' b = some o
theorem But.refl (a : Addr) (M : Mm) : But a M M := fun _ _ _ h => h
theorem But.trans {a : Addr} {M M1 M2 : Mm} (x : But a M M1) (y : But a M1 M2) : But a M M2 := fun b o n h => y b o n (x b o n h)
theorem But.set {a : Addr} {M M' : Mm} {o : MO} (x : But a M M') : But a M (updM M' a o) := fun b u n h => by rw [updM_ne n]; exact x b u n h
theorem But.ofExt {a : Addr} {M M' : Mm} (e : Ext M M') : But a M M' := fun b o _ h => e b o h
def sp_Text (cl : CF) (C : Addr) : DSp := fun ds M Q _ => ∃ (a q1 q2 q3 q4 : Addr) (t : TX), ds = [.ref a, .int t.w, .ref q1, .ref q2, .ref q3, .ref q4] ∧ ClT cl C ∧ M a = some (.ins C []) ∧ M q1 = some (.lst (t.ins.map .str)) ∧ M q2 = some (.lst t.needs) ∧ M q3 = some (.lst (letD t.lets)) ∧ M q4 = some (.lst (outD t.outs)) ∧
  t.Ok ∧ ∀ M', But a M M' → TxM cl C M' a t → Q .non M'
theorem r_Text__init__ (cl : CF) (C : Addr) : ∀ ds M Q E, sp_Text cl C ds M Q E → b_Text__init__ cl (sp_first_bad_line cl C) (En Q) (startD 10 ds) M := by
  rintro ds M Q E ⟨a, q1, q2, q3, q4, t, rfl, hcl, ha, h1, h2, h3, h4, ok, h⟩
  have n1 : q1 ≠ a := fun z => by subst z; rw [ha] at h1; cases h1
  have n2 : q2 ≠ a := fun z => by subst z; rw [ha] at h2; cases h2
  have n3 : q3 ≠ a := fun z => by subst z; rw [ha] at h3; cases h3
  have n4 : q4 ≠ a := fun z => by subst z; rw [ha] at h4; cases h4
  have l60 := ok.l60
  have o4 := ok.o4
  refine ⟨a, C, [], rfl, ha, hcl _ (by simp), by decide, ?_⟩
  have b1 : But a M (updM M a (.ins C [("width", .int t.w)])) := (But.refl a M).set
  have a1 : updM M a (.ins C [("width", .int t.w)]) a = some (.ins C [("width", .int t.w)]) := updM_same
  show dSeq _ _ _ _ (updM M a (.ins C [("width", .int t.w)]))
  generalize updM M a (.ins C [("width", .int t.w)]) = M1 at b1 a1 ⊢
  refine ⟨_, b1 _ _ n1 h1, a, C, _, rfl, a1, hcl _ (by simp), (by show 1 < 1000; decide), ?_⟩
  have b2 : But a M (updM M1 a (.ins C [("width", .int t.w), ("inputs", .tup (t.ins.map .str))])) := b1.set
  have a2 : updM M1 a (.ins C [("width", .int t.w), ("inputs", .tup (t.ins.map .str))]) a = some (.ins C [("width", .int t.w), ("inputs", .tup (t.ins.map .str))]) := updM_same
  show dSeq _ _ _ _ (updM M1 a (.ins C [("width", .int t.w), ("inputs", .tup (t.ins.map .str))]))
  generalize updM M1 a (.ins C [("width", .int t.w), ("inputs", .tup (t.ins.map .str))]) = M2 at b2 a2 ⊢
  refine ⟨_, b2 _ _ n2 h2, a, C, _, rfl, a2, hcl _ (by simp), (by show 2 < 1000; decide), ?_⟩
  have b3 : But a M (updM M2 a (.ins C [("width", .int t.w), ("inputs", .tup (t.ins.map .str)), ("needs", .tup t.needs)])) := b2.set
  have a3 : updM M2 a (.ins C [("width", .int t.w), ("inputs", .tup (t.ins.map .str)), ("needs", .tup t.needs)]) a = some (.ins C [("width", .int t.w), ("inputs", .tup (t.ins.map .str)), ("needs", .tup t.needs)]) := updM_same
  show dSeq _ _ _ _ (updM M2 a (.ins C [("width", .int t.w), ("inputs", .tup (t.ins.map .str)), ("needs", .tup t.needs)]))
  generalize updM M2 a (.ins C [("width", .int t.w), ("inputs", .tup (t.ins.map .str)), ("needs", .tup t.needs)]) = M3 at b3 a3 ⊢
  refine ⟨_, b3 _ _ n3 h3, fun p hp => ?_⟩
  have l3 := b3 _ _ n3 h3
  refine ⟨fun i acc M' => Ext M3 M' ∧ M' p = some (.lst acc) ∧ acc = letD (t.lets.take i), ⟨Ext.new hp, updM_same, rfl⟩, fun i acc M' ⟨e, _⟩ => e _ _ l3, ?_, ?_⟩
  · rintro i acc M' d hd ⟨hx, hp2, rfl⟩
    unfold letD at hd
    rw [List.getElem?_map] at hd
    obtain ⟨p', hp', rfl⟩ := Option.map_eq_some_iff.mp hd
    refine ⟨rfl, fun _ => ⟨by show 2 ≤ sizeLine; decide, hp2, by rw [letD_len, List.length_take]; exact tolist (by omega), hx.mut hp, updM_same, ?_⟩, fun hc => absurd hc (by decide)⟩
    rw [take_snoc hp']; unfold letD; rw [List.map_append]; rfl
  rintro acc M' ⟨hx, hp2, rfl⟩
  rw [letD_len, List.take_length] at hp2
  have b3' := b3.trans (.ofExt hx)
  refine ⟨_, hp2, a, C, _, rfl, hx _ _ a3, hcl _ (by simp), (by show 3 < 1000; decide), ?_⟩
  have b4 : But a M (updM M' a (.ins C [("width", .int t.w), ("inputs", .tup (t.ins.map .str)), ("needs", .tup t.needs), ("lets", .tup (letD t.lets))])) := b3'.set
  have a4 : updM M' a (.ins C [("width", .int t.w), ("inputs", .tup (t.ins.map .str)), ("needs", .tup t.needs), ("lets", .tup (letD t.lets))]) a = some (.ins C [("width", .int t.w), ("inputs", .tup (t.ins.map .str)), ("needs", .tup t.needs), ("lets", .tup (letD t.lets))]) := updM_same
  show dSeq _ _ _ _ (updM M' a (.ins C [("width", .int t.w), ("inputs", .tup (t.ins.map .str)), ("needs", .tup t.needs), ("lets", .tup (letD t.lets))]))
  generalize updM M' a (.ins C [("width", .int t.w), ("inputs", .tup (t.ins.map .str)), ("needs", .tup t.needs), ("lets", .tup (letD t.lets))]) = M4 at b4 a4 ⊢
  have l4 := b4 _ _ n4 h4
  refine ⟨_, l4, fun p hp => ?_⟩
  refine ⟨fun i acc M' => Ext M4 M' ∧ M' p = some (.lst acc) ∧ acc = outD (t.outs.take i), ⟨Ext.new hp, updM_same, rfl⟩, fun i acc M' ⟨e, _⟩ => e _ _ l4, ?_, ?_⟩
  · rintro i acc M' d hd ⟨hx, hp2, rfl⟩
    unfold outD at hd
    rw [List.getElem?_map] at hd
    obtain ⟨p', hp', rfl⟩ := Option.map_eq_some_iff.mp hd
    refine ⟨rfl, fun _ => ⟨by show 2 ≤ sizeLine; decide, hp2, by rw [outD_len, List.length_take]; exact tolist (by omega), hx.mut hp, updM_same, ?_⟩, fun hc => absurd hc (by decide)⟩
    rw [take_snoc hp']; unfold outD; rw [List.map_append]; rfl
  rintro acc M' ⟨hx, hp2, rfl⟩
  rw [outD_len, List.take_length] at hp2
  have b4' := b4.trans (.ofExt hx)
  refine ⟨_, hp2, a, C, _, rfl, hx _ _ a4, hcl _ (by simp), (by show 4 < 1000; decide), ?_⟩
  have b5 : But a M (updM M' a (.ins C t.fs)) := b4'.set
  have a5 : updM M' a (.ins C t.fs) a = some (.ins C t.fs) := updM_same
  show dSeq _ _ _ _ (updM M' a (.ins C t.fs))
  generalize updM M' a (.ins C t.fs) = M5 at b5 a5 ⊢
  refine ⟨a, t, rfl, ⟨a5, hcl⟩, ok, fun M6 e6 => ?_⟩
  walk_at "if"
  exact h M6 (b5.trans (.ofExt e6)) ⟨e6 _ _ a5, hcl⟩
/-! ### rows and outputs -/
def rho0 : List Str → List Nat → Str → Nat
  | n :: ns, x :: xs, s => if s = n then x else rho0 ns xs s
  | _, _, _ => 0
theorem rho0_at : ∀ {ins : List Str} {xs : List Nat} {i : Nat} {n : Str} {x : Nat}, ins.Nodup → ins[i]? = some n → xs[i]? = some x → rho0 ins xs n = x
  | [], _, i, _, _, _, h, _ => by simp at h
  | _ :: _, [], i, _, _, _, _, h => by simp at h
  | m :: ns, y :: xs, 0, n, x, _, h1, h2 => by
    simp at h1 h2
    subst h1; subst h2
    simp [rho0]
  | m :: ns, y :: xs, i + 1, n, x, hn, h1, h2 => by
    simp at h1 h2
    rw [List.nodup_cons] at hn
    have : n ≠ m := fun e => hn.1 (e ▸ List.mem_of_getElem? h1)
    simp only [rho0, if_neg this]
    exact rho0_at hn.2 h1 h2
def EnvL (M : Mm) (a : Addr) (w : Nat) (ρ : Str → Nat) (nms : List Str) (n : Nat) : Prop := ∃ kvs, M a = some (.dk kvs) ∧ kvs.length ≤ n ∧ ∀ s ∈ nms, valD kvs (.inr s) = some (.int (ρ s)) ∧ ρ s < 2 ^ w
theorem EnvL.env {M : Mm} {a : Addr} {w : Nat} {ρ : Str → Nat} {nms : List Str} {n : Nat} (h : EnvL M a w ρ nms n) : EnvM M a w ρ nms := let ⟨kvs, h1, _, h2⟩ := h; ⟨kvs, h1, h2⟩
theorem EnvL.ext {M M' : Mm} {a : Addr} {w : Nat} {ρ : Str → Nat} {nms : List Str} {n : Nat} (h : EnvL M a w ρ nms n) (e : Ext M M') : EnvL M' a w ρ nms n := let ⟨kvs, h1, h2⟩ := h; ⟨kvs, e _ _ h1, h2⟩
/-- one more name -/
theorem EnvL.put {M' : Mm} {a : Addr} {w : Nat} {ρ ρ' : Str → Nat} {nms : List Str} {n : Nat} {s : Str} {v : Nat} {kvs : List (Key × D)} (hl : kvs.length ≤ n) (h : ∀ s ∈ nms, valD kvs (.inr s) = some (.int (ρ s)) ∧ ρ s < 2 ^ w) (hs : ¬ s ∈ nms) (hv : v < 2 ^ w) (h1 : ρ' s = v) (h2 : ∀ s' ∈ nms, ρ' s' = ρ s') (hm : M' a = some (.dk (putD kvs (.inr s) (.int v)))) : EnvL M' a w ρ' (nms ++ [s]) (n + 1) := by
  refine ⟨_, hm, by have := putD_len kvs (.inr s) (.int v); omega, fun s' hs' => ?_⟩
  rw [putD_val]
  rcases List.mem_append.mp hs' with hs' | hs'
  · have : s' ≠ s := fun e => hs (e ▸ hs')
    rw [if_neg (fun z => this (by cases z; rfl)), h2 s' hs']
    exact h s' hs'
  · cases List.mem_singleton.mp hs'
    rw [if_pos rfl, h1]
    exact ⟨rfl, hv⟩
def RowOk (t : TX) (xs : List Nat) : Prop := xs.length = t.ins.length ∧ ∀ x ∈ xs, x < 2 ^ t.w
def RetE (M : Mm) (Q : DQ) (w : Nat) (ρ : Str → Nat) (nms : List Str) (n : Nat) : Prop := ∀ p M', M p = none → Ext M M' → EnvL M' p w ρ nms n → Q (.ref p) M'
def sp_row_env (cl : CF) (C : Addr) : DSp := fun ds M Q _ => ∃ (a : Addr) (t : TX) (xs : List Nat), ds = [.ref a, .tup (wds xs)] ∧ TxM cl C M a t ∧ t.Ok ∧ RowOk t xs ∧ RetE M Q t.w (rho0 t.ins xs) t.ins 4
theorem wds_at {xs : List Nat} {i : Nat} {d : D} (h : (wds xs)[i]? = some d) : ∃ x, xs[i]? = some x ∧ d = .int (x : Nat) := by
  rw [List.getElem?_map] at h
  obtain ⟨x, h1, h2⟩ := Option.map_eq_some_iff.mp h
  exact ⟨x, h1, h2.symm⟩
theorem strs_at {l : List Str} {i : Nat} {d : D} (h : (l.map D.str)[i]? = some d) : ∃ x, l[i]? = some x ∧ d = .str x := by
  rw [List.getElem?_map] at h
  obtain ⟨x, h1, h2⟩ := Option.map_eq_some_iff.mp h
  exact ⟨x, h1, h2.symm⟩
theorem r_row_env (cl : CF) (C : Addr) : ∀ ds M Q E, sp_row_env cl C ds M Q E → b_row_env cl (En Q) (startD 5 ds) M := by
  rintro ds M Q E ⟨a, t, xs, rfl, tx, ok, hr, h⟩
  have i4 := ok.i4
  refine fun p hp => ?_
  have e0 : Ext M (updM M p (.dk [])) := Ext.new hp
  refine ⟨_, _, _, _, rfl, (tx.ext e0).at_, tx.cl _ (by simp), rfl, ?_⟩
  refine ⟨fun i E M' => Ext M M' ∧ EnvL M' p t.w (rho0 t.ins xs) (t.ins.take i) i ∧ ∃ x y, E = [some (.ref a), some (.tup (wds xs)), some (.ref p), x, y], ⟨e0, ⟨[], updM_same, Nat.le_refl _, by simp⟩, none, none, rfl⟩, fun _ _ _ _ => trivial, ?_, ?_⟩
  · rintro i E M' d hd ⟨hx, ⟨kvs, hk, hl, hv⟩, x, y, rfl⟩
    obtain ⟨u, v, h1, h2, rfl⟩ := zip_at hd
    obtain ⟨n, hn, rfl⟩ := strs_at h1
    obtain ⟨z, hz, rfl⟩ := wds_at h2
    have hi := lt_at hn
    refine ⟨rfl, .inr ⟨kvs, .inr n, hk, rfl, tolist (by omega), hx.mut hp, ?_, _, _, rfl⟩⟩
    rw [take_snoc hn]
    exact EnvL.put (ρ := rho0 t.ins xs) hl hv (nodup_not_take ok.nd hn) (hr.2 z (mem_at hz)) (rho0_at ok.nd hn hz) (fun _ _ => rfl) updM_same
  · rintro E M' ⟨hx, ⟨kvs, hk, hl, hv⟩, x, y, rfl⟩
    have e : (zipD (t.ins.map D.str) (wds xs)).length = t.ins.length := by rw [zip_len, List.length_map, List.length_map, hr.1]; omega
    rw [e] at hl hv
    rw [List.take_length] at hv
    exact h p M' hp hx ⟨kvs, hk, by omega, hv⟩
def keepD (t : TX) (xs : List Nat) : Bool := t.needs.all fun d => decide (evD t.w (rho0 t.ins xs) d ≠ 0)
def sp_keeps_needs (cl : CF) (C : Addr) : DSp := fun ds M Q _ => ∃ (a : Addr) (t : TX) (xs : List Nat), ds = [.ref a, .tup (wds xs)] ∧ TxM cl C M a t ∧ t.Ok ∧ RowOk t xs ∧ RetV M Q (.bl (keepD t xs))
theorem all_false {α : Type} {p : α → Bool} {l : List α} {i : Nat} {x : α} (h : l[i]? = some x) (hp : p x = false) : l.all p = false := by
  rw [List.all_eq_false]
  exact ⟨x, mem_at h, by simp [hp]⟩
theorem r_keeps_needs (cl : CF) (C : Addr) : ∀ ds M Q E, sp_keeps_needs cl C ds M Q E → b_keeps_needs cl (sp_row_env cl C) (sp_value 8) (En Q) (startD 4 ds) M := by
  rintro ds M Q E ⟨a, t, xs, rfl, tx, ok, hr, h⟩
  refine ⟨a, t, xs, rfl, tx, ok, hr, fun p M1 hp e1 he => ?_⟩
  refine ⟨_, _, _, _, rfl, (tx.ext e1).at_, tx.cl _ (by simp), rfl, ?_⟩
  refine ⟨fun i E M' => Ext M1 M' ∧ (t.needs.take i).all (fun d => decide (evD t.w (rho0 t.ins xs) d ≠ 0)) = true ∧ ∃ x, E = [some (.ref a), some (.tup (wds xs)), some (.ref p), x], ⟨Ext.refl _, rfl, none, rfl⟩, fun _ _ _ _ => trivial, ?_, ?_⟩
  · rintro i E M' d hd ⟨hx, hall, x, rfl⟩
    have hf := ok.nf d (mem_at hd)
    refine ⟨_, _, _, _, rfl, ((tx.ext e1).ext hx).at_, tx.cl _ (by simp), rfl, ?_⟩
    refine ⟨d, t.w, p, rho0 t.ins xs, t.ins, rfl, ok.w1, ok.w4, hf.1, by have := hf.2.1; omega, (he.ext hx).env, fun M2 e2 => ⟨fun hb => ?_, fun hb => ?_⟩⟩
    · have hb := of_decide_eq_true hb
      refine qb (h M2 ((e1.trans hx).trans e2)) ?_
      symm
      exact all_false hd (decide_eq_false (by omega))
    · have hb := of_decide_eq_false hb
      refine ⟨hx.trans e2, ?_, _, rfl⟩
      rw [take_snoc hd, List.all_append, hall]
      have : decide (evD t.w (rho0 t.ins xs) d ≠ 0) = true := decide_eq_true (by omega)
      simp [this]
      omega
  · rintro E M' ⟨hx, hall, x, rfl⟩
    rw [List.take_length] at hall
    exact qb (h M' (e1.trans hx)) hall.symm
def rowsK (t : TX) (n : Nat) : List D := ((List.range n).filter fun i => keepD t (rowD (2 ^ t.w) t.ins.length i)).map fun i => .tup (wds (rowD (2 ^ t.w) t.ins.length i))
theorem rowsK_len (t : TX) (n : Nat) : (rowsK t n).length ≤ n := by
  unfold rowsK
  rw [List.length_map]
  exact Nat.le_trans (List.length_filter_le _ _) (by simp)
theorem rowsK_snoc (t : TX) (n : Nat) : rowsK t (n + 1) = rowsK t n ++ (if keepD t (rowD (2 ^ t.w) t.ins.length n) then [.tup (wds (rowD (2 ^ t.w) t.ins.length n))] else []) := by
  unfold rowsK
  rw [List.range_succ, List.filter_append, List.map_append]
  congr 1
  by_cases h : keepD t (rowD (2 ^ t.w) t.ins.length n) = true
  · simp [h]
  · simp [h]
def TX.rows (t : TX) : Nat := (2 ^ t.w) ^ t.ins.length
theorem TX.Ok.rows {t : TX} (ok : t.Ok) : t.rows ≤ 256 := by
  unfold TX.rows
  rw [← Nat.pow_mul]
  exact Nat.pow_le_pow_right (n := 2) (by decide) ok.bits
theorem rowOk {t : TX} (i : Nat) : RowOk t (rowD (2 ^ t.w) t.ins.length i) := ⟨rowD_len _ _ _, rowD_lt (Nat.two_pow_pos _) _ _⟩
def sp_let_rows (cl : CF) (C : Addr) : DSp := fun ds M Q _ => ∃ (a : Addr) (t : TX), ds = [.ref a] ∧ TxM cl C M a t ∧ t.Ok ∧ RetL M Q (rowsK t t.rows)
theorem r_let_rows (cl : CF) (C : Addr) : ∀ ds M Q E, sp_let_rows cl C ds M Q E → b_let_rows cl sp_all_rows (sp_keeps_needs cl C) (En Q) (startD 3 ds) M := by
  rintro ds M Q E ⟨a, t, rfl, tx, ok, h⟩
  have i4 := ok.i4
  have w4 := ok.w4
  have hr := ok.rows
  refine ⟨by show 0 ≤ sizeLine; decide, fun p hp => ?_⟩
  have e0 : Ext M (updM M p (.lst [])) := Ext.new hp
  refine ⟨_, _, _, _, rfl, (tx.ext e0).at_, tx.cl _ (by simp), rfl, ?_⟩
  refine ⟨_, _, _, _, rfl, (tx.ext e0).at_, tx.cl _ (by simp), rfl, ?_⟩
  refine ⟨t.w, t.ins.length, by show [D.int t.w, D.int ((t.ins.map D.str).length : Nat)] = _; rw [List.length_map], by omega, by omega, by unfold TX.rows at hr; omega, fun q M1 hq e1 hqm => ?_⟩
  have e01 := e0.trans e1
  refine ⟨_, hqm, fun i E M' => But p M1 M' ∧ M' p = some (.lst (rowsK t i)) ∧ ∃ x, E = [some (.ref a), some (.ref p), x], ⟨But.refl _ _, e1 _ _ updM_same, none, rfl⟩, ?_, ?_, ?_⟩
  · rintro i E M' ⟨hx, _, _⟩
    exact hx _ _ (fun z => by subst z; rw [updM_same] at hq; cases hq) hqm
  · rintro i E M' d hd ⟨hx, hl, x, rfl⟩
    obtain ⟨hi, rfl⟩ := rowsL_get hd
    have hap : a ≠ p := fun z => by subst z; rw [tx.at_] at hp; cases hp
    have txM : TxM cl C M' a t := ⟨hx _ _ hap (e01 _ _ tx.at_), tx.cl⟩
    refine ⟨a, t, _, rfl, txM, ok, rowOk i, fun M2 e2 => ⟨fun hb => ?_, fun hb => ?_⟩⟩
    · refine ⟨⟨_, e2 _ _ hl⟩, _, e2 _ _ hl, tolist (by have := rowsK_len t i; have : i < t.rows := hi; omega), (hx.trans (.ofExt e2)).set, ?_, _, rfl⟩
      rw [updM_same, rowsK_snoc, if_pos hb]
    · refine ⟨hx.trans (.ofExt e2), ?_, _, rfl⟩
      have hb : keepD t (rowD (2 ^ t.w) t.ins.length i) = false := hb
      rw [rowsK_snoc, hb, if_neg (by decide), List.append_nil]
      exact e2 _ _ hl
  · rintro E M' ⟨hx, hl, x, rfl⟩
    rw [rowsL_len] at hl
    refine h p M' hp (fun b o hb => ?_) hl
    have hbp : b ≠ p := fun z => by subst z; rw [hp] at hb; cases hb
    exact hx _ _ hbp (e01 _ _ hb)
def rhoN (t : TX) (xs : List Nat) (i : Nat) : Str → Nat := (t.lets.take i).foldl (fun ρ p => fun s => if s = p.1 then evD t.w ρ p.2 else ρ s) (rho0 t.ins xs)
theorem rhoN_succ {t : TX} {xs : List Nat} {i : Nat} {p : Str × D} (h : t.lets[i]? = some p) : rhoN t xs (i + 1) = fun s => if s = p.1 then evD t.w (rhoN t xs i) p.2 else rhoN t xs i s := by
  unfold rhoN
  rw [take_snoc h, List.foldl_append]; rfl
def outsD (t : TX) (xs : List Nat) (n : Nat) : List D := (t.outs.take n).map fun p => .tup [.int (p.1 : Nat), .int (evD t.w (rhoN t xs t.lets.length) p.2 : Nat)]
def sp_text_outputs (cl : CF) (C : Addr) : DSp := fun ds M Q _ => ∃ (a : Addr) (t : TX) (xs : List Nat), ds = [.ref a, .tup (wds xs)] ∧ TxM cl C M a t ∧ t.Ok ∧ RowOk t xs ∧ RetV M Q (.tup (outsD t xs t.outs.length))
theorem known_succ {t : TX} {i : Nat} {p : Str × D} (h : t.lets[i]? = some p) : t.known (i + 1) = t.known i ++ [p.1] := by
  unfold TX.known
  rw [take_snoc h, List.map_append, List.append_assoc]; rfl
theorem r_text_outputs (cl : CF) (C : Addr) : ∀ ds M Q E, sp_text_outputs cl C ds M Q E → b_text_outputs cl (sp_row_env cl C) (sp_value 8) (En Q) (startD 7 ds) M := by
  rintro ds M Q E ⟨a, t, xs, rfl, tx, ok, hr, h⟩
  have l60 := ok.l60
  have o4 := ok.o4
  refine ⟨a, t, xs, rfl, tx, ok, hr, fun p M1 hp e1 he => ?_⟩
  refine ⟨_, _, _, _, rfl, (tx.ext e1).at_, tx.cl _ (by simp), rfl, ?_⟩
  refine ⟨fun i E M' => Ext M M' ∧ EnvL M' p t.w (rhoN t xs i) (t.known i) (4 + i) ∧ ∃ x y z u, E = [some (.ref a), some (.tup (wds xs)), some (.ref p), x, y, z, u], ⟨e1, by
    unfold TX.known
    rw [List.take_zero, List.map_nil, List.append_nil]
    exact he, none, none, none, none, rfl⟩, fun _ _ _ _ => trivial, ?_, ?_⟩
  · rintro i E M' d hd ⟨hx, hev, x, y, z, u, rfl⟩
    unfold letD at hd
    rw [List.getElem?_map] at hd
    obtain ⟨p', hp', rfl⟩ := Option.map_eq_some_iff.mp hd
    obtain ⟨hg, hn, hf⟩ := ok.ln i p' hp'
    have hi := lt_at hp'
    refine ⟨rfl, ?_⟩
    refine ⟨_, _, _, _, rfl, (tx.ext hx).at_, tx.cl _ (by simp), rfl, ?_⟩
    refine ⟨p'.2, t.w, p, rhoN t xs i, t.known i, rfl, ok.w1, ok.w4, hf.1, by have := hf.2.1; omega, hev.env, fun M2 e2 => ?_⟩
    obtain ⟨kvs, hk, hl, hv⟩ := hev.ext e2
    refine .inr ⟨kvs, .inr p'.1, hk, rfl, tolist (by omega), (hx.trans e2).mut hp, ?_, _, _, _, _, rfl⟩
    rw [known_succ hp', show 4 + (i + 1) = 4 + i + 1 by omega]
    refine EnvL.put (ρ := rhoN t xs i) hl hv hn (ev_lt ok.w1 (fun s hs => (hv s hs).2) p'.2 hf.1) ?_ (fun s' hs' => ?_) updM_same
    · rw [rhoN_succ hp']
      exact if_pos rfl
    · rw [rhoN_succ hp']
      exact if_neg fun (e : s' = p'.1) => hn (e ▸ hs')
  · rintro E M' ⟨hx, hev, x, y, z, u, rfl⟩
    rw [letD_len] at hev
    refine ⟨by show 0 ≤ sizeLine; decide, fun r hr2 => ?_⟩
    have e2 : Ext M' (updM M' r (.lst [])) := Ext.new hr2
    refine ⟨_, _, _, _, rfl, ((tx.ext hx).ext e2).at_, tx.cl _ (by simp), rfl, ?_⟩
    refine ⟨fun i E M2 => Ext M' M2 ∧ M2 r = some (.lst (outsD t xs i)) ∧ ∃ x y z, E = [some (.ref a), some (.tup (wds xs)), some (.ref p), x, y, some (.ref r), z], ⟨e2, updM_same, _, _, _, rfl⟩, fun _ _ _ _ => trivial, ?_, ?_⟩
    · rintro i E M2 d hd ⟨hx2, hl, x, y, z, rfl⟩
      unfold outD at hd
      rw [List.getElem?_map] at hd
      obtain ⟨p', hp', rfl⟩ := Option.map_eq_some_iff.mp hd
      obtain ⟨hg, hf⟩ := ok.on i p' hp'
      have hi := lt_at hp'
      refine ⟨rfl, ⟨_, hl⟩, ?_⟩
      refine ⟨_, _, _, _, rfl, ((tx.ext hx).ext hx2).at_, tx.cl _ (by simp), rfl, ?_⟩
      refine ⟨p'.2, t.w, p, rhoN t xs t.lets.length, t.known t.lets.length, rfl, ok.w1, ok.w4, hf.1, by have := hf.2.1; omega, (hev.ext hx2).env, fun M3 e3 => ?_⟩
      refine ⟨by show 2 ≤ sizeLine; decide, _, e3 _ _ hl, tolist (by unfold outsD; rw [List.length_map, List.length_take]; omega), (hx2.trans e3).mut hr2, ?_, _, _, _, rfl⟩
      rw [updM_same]
      unfold outsD
      rw [take_snoc hp', List.map_append]; rfl
    · rintro E M2 ⟨hx2, hl, x, y, z, rfl⟩
      rw [outD_len] at hl
      exact ⟨_, hl, h M2 (hx.trans hx2)⟩
end Rd

set_option Elab.async false
set_option linter.all false
set_option autoImplicit false
set_option maxRecDepth 100000
set_option maxHeartbeats 4000000
/-! readings: the law of k87, its own meaning of a text -/
namespace Rd
open PySem PySem.Spec PyProof.Rows L2 DH Bd
local macro_rules | `(tactic| walk_at "if") => `(tactic| first | (refine ⟨fun _ => ?_, fun hc => absurd hc (by decide)⟩) | (refine ⟨fun hc => absurd hc (by decide), fun _ => ?_⟩))
theorem rowD_map (B : Nat) : ∀ m n, rowD B m n = (List.range m).map fun k => n / B ^ (m - 1 - k) % B
  | 0, n => rfl
  | m + 1, n => by
    rw [rowD, rowD_map B m (n / B), List.range_succ, List.map_append]
    congr 1
    · apply List.map_congr_left
      intro k hk
      have hk : k < m := List.mem_range.mp hk
      rw [Nat.div_div_eq_div_mul, ← Nat.pow_succ']
      congr 3
      omega
    · simp
theorem range_get {m k : Nat} (h : k < m) : (List.range m)[k]? = some k := List.getElem?_range h
def sp_rows2 : DSp := fun ds M Q _ => ∃ w m : Nat, ds = [.int w, .int m] ∧ w ≤ 4 ∧ m ≤ 8 ∧ (2 ^ w) ^ m ≤ 256 ∧ RetL M Q (rowsL (2 ^ w) m ((2 ^ w) ^ m))
theorem r__law_rows_v2 : ∀ ds M Q E, sp_rows2 ds M Q E → b__law_rows_v2 (En Q) (startD 6 ds) M := by
  rintro ds M Q E ⟨w, m, rfl, hw, hm, hb, h⟩
  have hB := Nat.two_pow_pos w
  have hpow : (1 : Int) * 2 ^ (w : Int).toNat = ((2 ^ w : Nat) : Int) := pow_cast w
  have hcp : CPow 1 (w : Int) := cpow w (by omega) (by decide)
  have hB4 : 2 ^ w ≤ 16 := Nat.pow_le_pow_right (n := 2) (by decide) hw
  have hwm : ((w : Int) * m).toNat = w * m := by rw [← Int.natCast_mul]; rfl
  have hwm32 : w * m ≤ 32 := Nat.mul_le_mul hw hm
  have hwmi : (w : Int) * m ≤ 32 := by exact_mod_cast hwm32
  have hwm0 : (0 : Int) ≤ (w : Int) * m := Int.mul_nonneg (by omega) (by omega)
  have hp2 : (1 : Int) * 2 ^ ((w : Int) * m).toNat = (((2 ^ w) ^ m : Nat) : Int) := by
    rw [hwm, ← Nat.pow_mul, Int.one_mul]; norm_cast
  refine ⟨by show 0 ≤ sizeLine; decide, fun p hp => ⟨.inl ⟨by omega, by omega⟩, ⟨hwm0, by omega, by decide⟩, ?_⟩⟩
  refine ⟨?_, ?_, ?_⟩
  · show -(2 ^ 62) ≤ (1 : Int) * 2 ^ ((w : Int) * m).toNat
    rw [hp2]; omega
  · show (1 : Int) * 2 ^ ((w : Int) * m).toNat < 2 ^ 62
    rw [hp2]; omega
  refine ⟨fun i E M' => Ext M M' ∧ M' p = some (.lst (rowsL (2 ^ w) m i)) ∧ ∃ x y z, E = [some (.int w), some (.int m), some (.ref p), x, y, z], ⟨Ext.new hp, updM_same, none, none, none, rfl⟩, fun _ _ _ _ => trivial, ?_, ?_⟩
  · rintro i E M' d hd ⟨hx, hl, x, y, z, rfl⟩
    obtain ⟨hi, rfl⟩ := rng_at hd
    have hi : i < (2 ^ w) ^ m := by
      have : i < ((1 : Int) * 2 ^ ((w : Int) * m).toNat).toNat := hi
      rw [hp2] at this; omega
    rw [Int.zero_add]
    refine ⟨by omega, by omega, fun q hq => ?_⟩
    have hqp : q ≠ p := fun z => by subst z; rw [hq] at hl; cases hl
    refine ⟨fun k acc M2 => Ext M' M2 ∧ M2 q = some (.lst acc) ∧ acc = wds ((rowD (2 ^ w) m i).take k), ⟨Ext.new hq, updM_same, rfl⟩, fun _ _ _ _ => trivial, ?_, ?_⟩
    · rintro k acc M2 d hd ⟨hx2, hq2, rfl⟩
      obtain ⟨hk, rfl⟩ := rng_at hd
      have hk : k < m := by have : k < (m : Int).toNat := hk; omega
      have e1 : ((w : Int) * ((m : Int) - 1 - (0 + (k : Int)))) = ((w * (m - 1 - k) : Nat) : Int) := by
        rw [Int.natCast_mul]
        congr 1
        omega
      have hsh : (i : Int) / 2 ^ ((w : Int) * ((m : Int) - 1 - (0 + (k : Int)))).toNat = ((i / (2 ^ w) ^ (m - 1 - k) : Nat) : Int) := by
        rw [e1, ← Nat.pow_mul]
        exact shr_ok i (w * (m - 1 - k))
      refine ⟨fun _ => ⟨.inl ⟨by omega, by omega⟩, ?_, hcp, hq2, by rw [List.length_map, List.length_take]; exact tolist (by omega), hx2.mut hq, updM_same, ?_⟩, fun hc => absurd hc (by decide)⟩
      · show (0 : Int) ≤ (w : Int) * ((m : Int) - 1 - (0 + (k : Int)))
        rw [e1]; omega
      · show wds ((rowD (2 ^ w) m i).take k) ++ [.int (Builtin.bitAnd ((i : Int) / 2 ^ ((w : Int) * ((m : Int) - 1 - (0 + (k : Int)))).toNat) (1 * 2 ^ (w : Int).toNat - 1))] = wds ((rowD (2 ^ w) m i).take (k + 1))
        have hat : (rowD (2 ^ w) m i)[k]? = some (i / (2 ^ w) ^ (m - 1 - k) % 2 ^ w) := by
          rw [rowD_map, List.getElem?_map, range_get hk]; rfl
        rw [hsh, hpow, show (((2 ^ w : Nat) : Int) - 1) = ((2 ^ w - 1 : Nat) : Int) by omega, and_ok, Nat.and_two_pow_sub_one_eq_mod, take_snoc hat, wds_app]
    · rintro acc M2 ⟨hx2, hq2, rfl⟩
      have e : ((rowD (2 ^ w) m i).take (rngD 0 (m : Int).toNat).length) = rowD (2 ^ w) m i := by
        rw [rng_len, show (m : Int).toNat = m by omega]
        exact List.take_of_length_le (by rw [rowD_len]; exact Nat.le_refl _)
      rw [e] at hq2
      refine ⟨⟨_, hx2 _ _ hl⟩, _, hq2, _, hx2 _ _ hl, by rw [rowsL_len]; exact tolist (by omega), (hx.trans hx2).mut hp, ?_, _, _, _, rfl⟩
      rw [updM_same, rowsL_snoc]
  · rintro E M' ⟨hx, hl, x, y, z, rfl⟩
    have e : (rngD 0 ((1 : Int) * 2 ^ ((w : Int) * m).toNat).toNat).length = (2 ^ w) ^ m := by rw [rng_len, hp2]; omega
    have hl : M' p = some (.lst (rowsL (2 ^ w) m (rngD 0 ((1 : Int) * 2 ^ ((w : Int) * m).toNat).toNat).length)) := hl
    rw [e] at hl
    exact h p M' hp hx hl
structure DaM (M : Mm) (a : Addr) (t : TX) : Prop where
  ex : ∃ a1 a2 a3 a4, M a = some (.lst [.int t.w, .ref a1, .ref a2, .ref a3, .ref a4]) ∧ M a1 = some (.lst (t.ins.map .str)) ∧ M a2 = some (.lst t.needs) ∧ M a3 = some (.lst (letD t.lets)) ∧ M a4 = some (.lst (outD t.outs))
theorem DaM.ext {M M' : Mm} {a : Addr} {t : TX} (h : DaM M a t) (e : Ext M M') : DaM M' a t := let ⟨a1, a2, a3, a4, h0, h1, h2, h3, h4⟩ := h.ex; ⟨a1, a2, a3, a4, e _ _ h0, e _ _ h1, e _ _ h2, e _ _ h3, e _ _ h4⟩
def sp_lenv : DSp := fun ds M Q _ => ∃ (a : Addr) (t : TX) (xs : List Nat), ds = [.ref a, .tup (wds xs)] ∧ DaM M a t ∧ t.Ok ∧ RowOk t xs ∧ RetE M Q t.w (rho0 t.ins xs) t.ins 4
theorem r__law_env : ∀ ds M Q E, sp_lenv ds M Q E → b__law_env (En Q) (startD 4 ds) M := by
  rintro ds M Q E ⟨a, t, xs, rfl, da, ok, hr, h⟩
  have i4 := ok.i4
  refine fun p hp => ?_
  have e0 : Ext M (updM M p (.dk [])) := Ext.new hp
  have el : (wds xs).length = t.ins.length := by rw [List.length_map]; exact hr.1
  refine ⟨by omega, by omega, ?_⟩
  refine ⟨fun i E M' => Ext M M' ∧ EnvL M' p t.w (rho0 t.ins xs) (t.ins.take i) i ∧ ∃ x, E = [some (.ref a), some (.tup (wds xs)), some (.ref p), x], ⟨e0, ⟨[], updM_same, Nat.le_refl _, by simp⟩, none, rfl⟩, fun _ _ _ _ => trivial, ?_, ?_⟩
  · rintro i E M' d hd ⟨hx, ⟨kvs, hk, hl, hv⟩, x, rfl⟩
    obtain ⟨hi, rfl⟩ := rng_at hd
    have hi : i < t.ins.length := by have : i < (((wds xs).length : Nat) : Int).toNat := hi; omega
    rw [Int.zero_add]
    obtain ⟨a1, a2, a3, a4, h0, h1, h2, h3, h4⟩ := (da.ext hx).ex
    have hn := getE hi
    generalize t.ins[i] = n at hn
    obtain ⟨z, hz⟩ : ∃ z, xs[i]? = some z := ⟨_, getE (by rw [hr.1]; exact hi)⟩
    refine ⟨.int z, atI_nat (by rw [List.getElem?_map, hz]; rfl), .inl ⟨_, _, .ref a1, h0, rfl, rfl, .inl ⟨_, _, .str n, h1, rfl, atI_nat (by rw [List.getElem?_map, hn]; rfl), .inr ⟨kvs, .inr n, hk, rfl, tolist (by omega), hx.mut hp, ?_, _, rfl⟩⟩⟩⟩
    rw [take_snoc hn]
    exact EnvL.put (ρ := rho0 t.ins xs) hl hv (nodup_not_take ok.nd hn) (hr.2 z (mem_at hz)) (rho0_at ok.nd hn hz) (fun _ _ => rfl) updM_same
  · rintro E M' ⟨hx, ⟨kvs, hk, hl, hv⟩, x, rfl⟩
    rw [rng_len] at hl hv
    have e : (((wds xs).length : Nat) : Int).toNat = t.ins.length := by omega
    have hl : kvs.length ≤ (((wds xs).length : Nat) : Int).toNat := hl
    have hv : ∀ s ∈ t.ins.take (((wds xs).length : Nat) : Int).toNat, _ := hv
    rw [e, List.take_length] at hv
    exact h p M' hp hx ⟨kvs, hk, by omega, hv⟩
def sp_lkeeps : DSp := fun ds M Q _ => ∃ (a : Addr) (t : TX) (xs : List Nat), ds = [.ref a, .tup (wds xs)] ∧ DaM M a t ∧ t.Ok ∧ RowOk t xs ∧ RetV M Q (.bl (keepD t xs))
theorem r__law_keeps : ∀ ds M Q E, sp_lkeeps ds M Q E → b__law_keeps sp_lenv (sp_lvalue 8) (En Q) (startD 4 ds) M := by
  rintro ds M Q E ⟨a, t, xs, rfl, da, ok, hr, h⟩
  refine ⟨a, t, xs, rfl, da, ok, hr, fun p M1 hp e1 he => ?_⟩
  obtain ⟨a1, a2, a3, a4, h0, h1, h2, h3, h4⟩ := (da.ext e1).ex
  refine .inl ⟨_, _, .ref a2, h0, rfl, rfl, _, h2, ?_⟩
  refine ⟨fun i E M' => Ext M1 M' ∧ (t.needs.take i).all (fun d => decide (evD t.w (rho0 t.ins xs) d ≠ 0)) = true ∧ ∃ x, E = [some (.ref a), some (.tup (wds xs)), some (.ref p), x], ⟨Ext.refl _, rfl, none, rfl⟩, fun i E M' ⟨e, _⟩ => e _ _ h2, ?_, ?_⟩
  · rintro i E M' d hd ⟨hx, hall, x, rfl⟩
    have hf := ok.nf d (mem_at hd)
    refine .inl ⟨_, _, _, hx _ _ h0, rfl, at0, ?_⟩
    refine ⟨d, t.w, p, rho0 t.ins xs, t.ins, rfl, ok.w1, ok.w4, hf.1, by have := hf.2.1; omega, (he.ext hx).env, fun M2 e2 => ⟨fun hb => ?_, fun hb => ?_⟩⟩
    · have hb := of_decide_eq_true hb
      refine qb (h M2 ((e1.trans hx).trans e2)) ?_
      symm
      exact all_false hd (decide_eq_false (by omega))
    · have hb := of_decide_eq_false hb
      refine ⟨hx.trans e2, ?_, _, rfl⟩
      rw [take_snoc hd, List.all_append, hall]
      have : decide (evD t.w (rho0 t.ins xs) d ≠ 0) = true := decide_eq_true (by omega)
      simp [this]
      omega
  · rintro E M' ⟨hx, hall, x, rfl⟩
    rw [List.take_length] at hall
    exact qb (h M' (e1.trans hx)) hall.symm
def sp_loutputs : DSp := fun ds M Q _ => ∃ (a : Addr) (t : TX) (xs : List Nat), ds = [.ref a, .tup (wds xs)] ∧ DaM M a t ∧ t.Ok ∧ RowOk t xs ∧ RetV M Q (.tup (outsD t xs t.outs.length))
theorem r__law_outputs : ∀ ds M Q E, sp_loutputs ds M Q E → b__law_outputs sp_lenv (sp_lvalue 8) (En Q) (startD 6 ds) M := by
  rintro ds M Q E ⟨a, t, xs, rfl, da, ok, hr, h⟩
  have l60 := ok.l60
  have o4 := ok.o4
  refine ⟨a, t, xs, rfl, da, ok, hr, fun p M1 hp e1 he => ?_⟩
  obtain ⟨a1, a2, a3, a4, h0, h1, h2, h3, h4⟩ := (da.ext e1).ex
  refine .inl ⟨_, _, .ref a3, h0, rfl, rfl, _, h3, ?_⟩
  have hpa : p ≠ a := fun z => by subst z; obtain ⟨_, _, _, _, q, _⟩ := da.ex; rw [hp] at q; cases q
  have hpne : ∀ b o, M b = some o → b ≠ p := fun b o q z => by subst z; rw [hp] at q; cases q
  obtain ⟨b1, b2, b3, b4, g0, g1, g2, g3, g4⟩ := da.ex
  have s3 : a3 = b3 := by have := e1 _ _ g0; rw [h0] at this; injection this with this; injection this with this; injection this with _ this; injection this with _ this; injection this with _ this; injection this with this _; injection this
  have s4 : a4 = b4 := by have := e1 _ _ g0; rw [h0] at this; injection this with this; injection this with this; injection this with _ this; injection this with _ this; injection this with _ this; injection this with _ this; injection this with this _; injection this
  subst s3
  subst s4
  refine ⟨fun i E M' => Ext M M' ∧ EnvL M' p t.w (rhoN t xs i) (t.known i) (4 + i) ∧ ∃ x y z, E = [some (.ref a), some (.tup (wds xs)), some (.ref p), x, y, z], ⟨e1, by
    unfold TX.known
    rw [List.take_zero, List.map_nil, List.append_nil]
    exact he, none, none, none, rfl⟩, fun i E M' ⟨e, _⟩ => e _ _ g3, ?_, ?_⟩
  · rintro i E M' d hd ⟨hx, hev, x, y, z, rfl⟩
    unfold letD at hd
    rw [List.getElem?_map] at hd
    obtain ⟨p', hp', rfl⟩ := Option.map_eq_some_iff.mp hd
    obtain ⟨hg, hn, hf⟩ := ok.ln i p' hp'
    have hi := lt_at hp'
    refine ⟨rfl, .inl ⟨_, _, _, hx _ _ g0, rfl, at0, ?_⟩⟩
    refine ⟨p'.2, t.w, p, rhoN t xs i, t.known i, rfl, ok.w1, ok.w4, hf.1, by have := hf.2.1; omega, hev.env, fun M2 e2 => ?_⟩
    obtain ⟨kvs, hk, hl, hv⟩ := hev.ext e2
    refine .inr ⟨kvs, .inr p'.1, hk, rfl, tolist (by omega), (hx.trans e2).mut hp, ?_, _, _, _, rfl⟩
    rw [known_succ hp', show 4 + (i + 1) = 4 + i + 1 by omega]
    refine EnvL.put (ρ := rhoN t xs i) hl hv hn (ev_lt ok.w1 (fun s hs => (hv s hs).2) p'.2 hf.1) ?_ (fun s' hs' => ?_) updM_same
    · rw [rhoN_succ hp']
      exact if_pos rfl
    · rw [rhoN_succ hp']
      exact if_neg fun (e : s' = p'.1) => hn (e ▸ hs')
  · rintro E M' ⟨hx, hev, x, y, z, rfl⟩
    rw [letD_len] at hev
    refine .inl ⟨_, _, .ref a4, hx _ _ g0, rfl, rfl, _, hx _ _ g4, fun r hr2 => ?_⟩
    refine ⟨fun i acc M2 => Ext M' M2 ∧ M2 r = some (.lst acc) ∧ acc = outsD t xs i, ⟨Ext.new hr2, updM_same, rfl⟩, fun i acc M2 ⟨e, _⟩ => e _ _ (hx _ _ g4), ?_, ?_⟩
    · rintro i acc M2 d hd ⟨hx2, hl, rfl⟩
      unfold outD at hd
      rw [List.getElem?_map] at hd
      obtain ⟨p', hp', rfl⟩ := Option.map_eq_some_iff.mp hd
      obtain ⟨hg, hf⟩ := ok.on i p' hp'
      have hi := lt_at hp'
      refine ⟨fun _ => ⟨_, at0, ?_⟩, fun hc => absurd hc (by decide)⟩
      refine ⟨p'.2, (rfl : atI _ 1 = some p'.2), .inl ⟨_, _, _, hx2 _ _ (hx _ _ g0), rfl, at0, ?_⟩⟩
      refine ⟨p'.2, t.w, p, rhoN t xs t.lets.length, t.known t.lets.length, rfl, ok.w1, ok.w4, hf.1, by have := hf.2.1; omega, (hev.ext hx2).env, fun M3 e3 => ?_⟩
      refine ⟨by show 2 ≤ sizeLine; decide, e3 _ _ hl, tolist (by unfold outsD; rw [List.length_map, List.length_take]; omega), (hx2.trans e3).mut hr2, updM_same, ?_⟩
      unfold outsD
      rw [take_snoc hp', List.map_append]; rfl
    · rintro acc M2 ⟨hx2, hl, rfl⟩
      rw [outD_len] at hl
      exact ⟨_, hl, h M2 (hx.trans hx2)⟩
def sp_word : DSp := fun ds M Q _ => ∃ i : Int, ds = [.int i] ∧ Q (.bl true) M
theorem r__law_is_word : ∀ ds M Q E, sp_word ds M Q E → b__law_is_word (En Q) (startD 1 ds) M := by
  rintro ds M Q E ⟨i, rfl, h⟩
  walk_at "if"
  exact h
def sp_same_outs : DSp := fun ds M Q _ => ∃ l : List D, ds = [.tup l, .tup l] ∧ (∀ d ∈ l, ∃ i j : Int, d = .tup [.int i, .int j]) ∧ Q (.bl true) M
theorem r__law_same_outputs : ∀ ds M Q E, sp_same_outs ds M Q E → b__law_same_outputs sp_word (En Q) (startD 3 ds) M := by
  rintro ds M Q E ⟨l, rfl, hl, h⟩
  walk_at "if"
  refine ⟨fun hc => absurd hc (by simp), fun _ => ?_⟩
  refine ⟨fun i E M' => M' = M ∧ ∃ x, E = [some (.tup l), some (.tup l), x], ⟨rfl, none, rfl⟩, fun _ _ _ _ => trivial, ?_, ?_⟩
  · rintro i E M' d hd ⟨rfl, x, rfl⟩
    obtain ⟨u, v, rfl⟩ := hl d (mem_at hd)
    walk_at "if"
    refine ⟨fun hc => absurd hc (by simp), fun _ => ?_⟩
    refine ⟨_, at0, u, rfl, ?_⟩
    walk_at "if"
    refine ⟨_, (rfl : atI _ 1 = some (.int v)), v, rfl, ?_⟩
    walk_at "if"
    exact ⟨rfl, _, rfl⟩
  · rintro E M' ⟨rfl, x, rfl⟩
    refine eq_same (n := 2) (ok_tup fun d hd => ?_) (by decide) h
    obtain ⟨u, v, rfl⟩ := hl d hd
    refine ok_tup fun e he => ?_
    simp only [List.mem_cons, List.not_mem_nil, or_false] at he
    rcases he with rfl | rfl <;> exact ok_int _ _
theorem ne_same {n : Nat} {x : D} {M : Mm} {Q : DQ} (h : OkD n x) (hn : n ≤ 64) (q : Q (.bl false) M) : oNe x x M Q := by
  have gen : scalEq x x = none → oNe x x M Q := fun e => by
    unfold oNe
    rw [e]
    refine ⟨_, _, vw_pure x h.pu, vw_pure x h.pu, h.shaped hn, h.shaped hn, ?_⟩
    rw [SeqAt.eqv_refl _ h.la]; exact q
  cases x with
  | non => exact q
  | bl b => exact qb q (by simp)
  | int i => exact qb q (by simp)
  | str s => exact qb q (by simp)
  | tup ds => exact gen rfl
  | ref a => exact gen rfl
  | ty n => exact gen rfl
  | kd k => exact gen rfl
  | fl k => exact gen rfl
theorem ok_wds (xs : List Nat) : OkD 1 (.tup (wds xs)) := ok_tup fun d hd => by
  obtain ⟨x, _, rfl⟩ := List.mem_map.mp hd
  exact ok_int _ _
def sp_same_rows : DSp := fun ds M Q _ => ∃ (p q : Addr) (l : List D), ds = [.ref p, .ref q] ∧ M p = some (.lst l) ∧ M q = some (.lst l) ∧ l.length ≤ 1000 ∧ (∀ d ∈ l, ∃ xs : List Nat, d = .tup (wds xs)) ∧ Q (.bl true) M
theorem r__law_same_rows : ∀ ds M Q E, sp_same_rows ds M Q E → b__law_same_rows sp_word (En Q) (startD 4 ds) M := by
  rintro ds M Q E ⟨p, q, l, rfl, hp, hq, hll, hl, h⟩
  refine .inl ⟨_, hp, ?_⟩
  walk_at "if"
  refine .inl ⟨_, hp, .inl ⟨_, hq, fun hc => absurd hc (by simp), fun _ => ?_⟩⟩
  refine .inl ⟨_, hq, by omega, by omega, ?_⟩
  refine ⟨fun i E M' => M' = M ∧ ∃ x y, E = [some (.ref p), some (.ref q), x, y], ⟨rfl, none, none, rfl⟩, fun _ _ _ _ => trivial, ?_, ?_⟩
  · rintro i E M' d hd ⟨rfl, x, y, rfl⟩
    obtain ⟨hi, rfl⟩ := rng_at hd
    have hi : i < l.length := by have : i < ((l.length : Nat) : Int).toNat := hi; omega
    rw [Int.zero_add]
    have hat := getE hi
    obtain ⟨xs, hxs⟩ := hl _ (List.getElem_mem hi)
    rw [hxs] at hat
    refine .inl ⟨_, _, _, hp, rfl, atI_nat hat, ?_⟩
    walk_at "if"
    refine .inl ⟨_, _, _, hp, rfl, atI_nat hat, .inl ⟨_, _, _, hq, rfl, atI_nat hat, ?_⟩⟩
    refine ne_same (ok_wds xs) (by decide) ?_
    walk_at "if"
    refine .inl ⟨_, _, _, hp, rfl, atI_nat hat, ?_⟩
    refine ⟨fun j E M2 => M2 = M' ∧ ∃ y, E = [some (.ref p), some (.ref q), some (.int (i : Int)), y], ⟨rfl, y, rfl⟩, fun _ _ _ _ => trivial, ?_, ?_⟩
    · rintro j E M2 d hd ⟨rfl, y, rfl⟩
      obtain ⟨z, _, rfl⟩ := wds_at hd
      refine ⟨z, rfl, ?_⟩
      walk_at "if"
      exact ⟨rfl, _, rfl⟩
    · rintro E M2 ⟨rfl, y, rfl⟩
      exact ⟨rfl, _, _, rfl⟩
  · rintro E M' ⟨rfl, x, y, rfl⟩
    exact h
end Rd

set_option Elab.async false
set_option linter.all false
set_option autoImplicit false
set_option maxRecDepth 100000
set_option maxHeartbeats 8000000
/-! readings: the law of k87, its draw of a text -/
namespace Rd
open PySem PySem.Spec PyProof.Rows L2 DH Bd
local macro_rules | `(tactic| walk_at "if") => `(tactic| first | (refine ⟨fun _ => ?_, fun hc => absurd hc (by decide)⟩) | (refine ⟨fun hc => absurd hc (by decide), fun _ => ?_⟩))
theorem at_last {α : Type} (l : List α) (x : α) : atI (l ++ [x]) (-1) = some x := by
  unfold atI ixN
  rw [if_neg (by decide), List.length_append, if_pos (by simp; omega)]
  have e : ((-1 : Int) + ((l.length + [x].length : Nat) : Int)).toNat = l.length := by simp; omega
  rw [e]
  show (l ++ [x])[l.length]? = some x
  simp
def names4 : List Str := ["x", "y1", "zeta", "in4put"]
def insOf (base many : Nat) : List Str := (List.range many).map fun k => names4.getD ((k + base) % 4) ""
theorem insOf_ok : ∀ base : Fin 4, ∀ many : Fin 5, (insOf base.1 many.1).Nodup ∧ ∀ s ∈ insOf base.1 many.1, s ∈ names4 := by decide +kernel
theorem names4_ok : ∀ s ∈ names4, (isNameS s && !isOpS s) = true ∧ s.length ≤ 100 := by decide +kernel
theorem insOf_succ (base k : Nat) : insOf base (k + 1) = insOf base k ++ [names4.getD ((k + base) % 4) ""] := by unfold insOf; rw [List.range_succ, List.map_append]; rfl
theorem insOf_len (base k : Nat) : (insOf base k).length = k := by unfold insOf; simp
def nmK (r k : Nat) : Str := (⟨#[("abcdefg" : Str).cps.toList.getD r 0]⟩ : Str) ++ ((toString ((k : Nat) : Int) : String) : Str)
def digV (s : Str) : Nat := (s.cps.toList.drop 1).foldl (fun n c => n * 10 + (c - 48)) 0
theorem nmK_ok : ∀ r : Fin 7, ∀ k : Fin 61, (isNameS (nmK r.1 k.1) && !isOpS (nmK r.1 k.1)) = true ∧ (nmK r.1 k.1).length ≤ 100 ∧ ¬ nmK r.1 k.1 ∈ names4 ∧ digV (nmK r.1 k.1) = k.1 := by decide +kernel
def szB : Nat → Nat
  | 0 => 1
  | k + 1 => 1 + 3 * szB k
theorem szB_pos : ∀ k, 1 ≤ szB k
  | 0 => Nat.le_refl _
  | k + 1 => by simp only [szB]; omega
theorem wf_szB {w : Nat} {nms : List Str} : ∀ (k : Nat) (d : D), wfD w nms d = true → depthD d ≤ k → sizeD d ≤ szB k
  | k, .int i, _, _ => by simp only [sizeD]; exact szB_pos k
  | k, .str s, _, _ => by simp only [sizeD]; exact szB_pos k
  | 0, .tup ds, h, hd => by rw [depthD_tup] at hd; omega
  | k + 1, .tup ds, h, hd => by
    obtain ⟨o, t, rfl, hl, ht, _⟩ := op_inv h
    rw [depthD_tup] at hd
    have hd : depthDs t + 1 ≤ k + 1 := hd
    rw [sizeD_tup]
    have h1 : sizeDs t ≤ t.length * szB k := sizes_le fun d hd2 => wf_szB k d (ht d hd2) (by have := depthD_mem hd2; omega)
    have h2 : t.length * szB k ≤ 3 * szB k := Nat.mul_le_mul_right _ (by rw [hl]; exact (ar3 o).1)
    show 1 + sizeDs t ≤ szB (k + 1)
    simp only [szB]; omega
  | k, .non, h, _ => by simp [wfD] at h
  | k, .bl _, h, _ => by simp [wfD] at h
  | k, .ref _, h, _ => by simp [wfD] at h
  | k, .ty _, h, _ => by simp [wfD] at h
  | k, .kd _, h, _ => by simp [wfD] at h
  | k, .fl _, h, _ => by simp [wfD] at h
theorem okF_of {w : Nat} {nms : List Str} {d : D} (h : wfD w nms d = true) (hd : depthD d ≤ 2) : okF w nms d := ⟨h, by omega, Nat.le_trans (wf_szB 2 d h hd) (by decide)⟩
theorem four2_at : ∀ r : Nat, r < 4 → ∃ m : Nat, ([.int 0, .int 0, .int 1, .int 2] : List D)[r]? = some (.int m) ∧ m ≤ 2
  | 0, _ => ⟨0, rfl, by decide⟩
  | 1, _ => ⟨0, rfl, by decide⟩
  | 2, _ => ⟨1, rfl, by decide⟩
  | 3, _ => ⟨2, rfl, by decide⟩
theorem abc_at : ∀ r : Nat, r < 7 → atI ("abcdefg" : Str).cps.toList (r : Int) = some (("abcdefg" : Str).cps.toList.getD r 0)
  | 0, _ => rfl | 1, _ => rfl | 2, _ => rfl | 3, _ => rfl | 4, _ => rfl | 5, _ => rfl | 6, _ => rfl
def sp_law_text : DSp := fun ds M Q _ => ∃ (p c : Addr), ds = [.ref p, .ref c] ∧ Dw p c M ∧ ∀ (a : Addr) (t : TX) (M' : Mm), t.Ok → (∀ s ∈ t.known t.lets.length, PyData.strOk s = true) → DaM M' a t → Q (.ref a) M'
def BodyT (s1 s2 : DSp) : DS := b__law_text s1 s2
/-- the lets so far -/
structure LetsOk (w : Nat) (ins : List Str) (l : List (Str × D)) : Prop where
  ok : ∀ (i : Nat) (p : Str × D), l[i]? = some p → (∃ r, r < 7 ∧ p.1 = nmK r i) ∧ okF w (ins ++ (l.take i).map Prod.fst) p.2
theorem LetsOk.push {w : Nat} {ins : List Str} {l : List (Str × D)} {r : Nat} {d : D} (h : LetsOk w ins l) (hr : r < 7) (hd : okF w (ins ++ l.map Prod.fst) d) : LetsOk w ins (l ++ [(nmK r l.length, d)]) := ⟨fun i p hp => by
  by_cases hi : i < l.length
  · rw [List.getElem?_append_left hi] at hp
    rw [List.take_append_of_le_length (by omega)]
    exact h.ok i p hp
  · have hlt := lt_at hp
    rw [List.length_append] at hlt
    have hi : i = l.length := by have : [(nmK r l.length, d)].length = 1 := rfl; omega
    subst hi
    have hp : p = (nmK r l.length, d) := by simpa using hp.symm
    subst hp
    refine ⟨⟨r, hr, rfl⟩, ?_⟩
    rw [List.take_append_of_le_length (Nat.le_refl _), List.take_length]
    exact hd⟩
theorem TX.Ok.mk' {w base many : Nat} {needs : List D} {lets : List (Str × D)} {outs : List (Nat × D)} (w1 : 1 ≤ w) (w4 : w ≤ 4) (hb : base < 4) (hm : many ≤ 4) (bits : w * many ≤ 8) (n2 : needs.length ≤ 2) (nf : ∀ d ∈ needs, okF w (insOf base many) d) (l60 : lets.length ≤ 60) (hl : LetsOk w (insOf base many) lets)
    (o4 : outs.length ≤ 4) (on : ∀ (i : Nat) (p : Nat × D), outs[i]? = some p → p.1 ≤ 3 ∧ okF w (insOf base many ++ lets.map Prod.fst) p.2) (oo : ∀ (i : Nat) (p q : Nat × D), outs[i]? = some p → outs[i + 1]? = some q → p.1 < q.1) : (TX.mk w (insOf base many) needs lets outs).Ok where
  w1 := w1
  w4 := w4
  nd := (insOf_ok ⟨base, hb⟩ ⟨many, by omega⟩).1
  nm := fun s hs => names4_ok s ((insOf_ok ⟨base, hb⟩ ⟨many, by omega⟩).2 s hs)
  i4 := by show (insOf base many).length ≤ 4; rw [insOf_len]; exact hm
  bits := by show w * (insOf base many).length ≤ 8; rw [insOf_len]; exact bits
  n2 := n2
  nf := nf
  l60 := l60
  ln := fun i p hp => by
    obtain ⟨⟨r, hr, e⟩, hf⟩ := hl.ok i p hp
    have hi := lt_at hp
    have hi : i < lets.length := hi
    have g := nmK_ok ⟨r, hr⟩ ⟨i, by omega⟩
    refine ⟨e ▸ ⟨g.1, g.2.1⟩, fun hm => ?_, hf⟩
    rcases List.mem_append.mp hm with hm | hm
    · exact g.2.2.1 (e ▸ (insOf_ok ⟨base, hb⟩ ⟨many, by omega⟩).2 _ hm)
    · obtain ⟨q, hq, e2⟩ := List.mem_map.mp hm
      obtain ⟨j, hj, e3⟩ := List.mem_iff_getElem.mp hq
      rw [List.length_take] at hj
      have hj : j < min i lets.length := hj
      have hq2 : lets[j]? = some q := by
        rw [List.getElem_take] at e3
        rw [getE (show j < lets.length by omega)]
        exact congrArg some e3
      obtain ⟨⟨r2, hr2, e4⟩, _⟩ := hl.ok j q hq2
      have g2 := nmK_ok ⟨r2, hr2⟩ ⟨j, by omega⟩
      have : nmK r2 j = nmK r i := by rw [← e4, ← e, e2]
      have g3 : digV (nmK r2 j) = j := g2.2.2.2
      have g4 : digV (nmK r i) = i := g.2.2.2
      rw [this, g4] at g3
      omega
  o4 := o4
  on := fun i p hp => by
    obtain ⟨h1, h2⟩ := on i p hp
    refine ⟨h1, ?_⟩
    show okF w (insOf base many ++ (lets.take lets.length).map Prod.fst) p.2
    rw [List.take_length]
    exact h2
  oo := oo
theorem nmK_strOk : ∀ r : Fin 7, ∀ k : Fin 61, PyData.strOk (nmK r.1 k.1) = true := by decide +kernel
theorem names4_strOk : ∀ s ∈ names4, PyData.strOk s = true := by decide +kernel
theorem outs_push {l : List (Nat × D)} {x : Nat} {d : D} (h : ∀ (i : Nat) (p q : Nat × D), l[i]? = some p → l[i + 1]? = some q → p.1 < q.1) (hx : ∀ p ∈ l, p.1 < x) : ∀ (i : Nat) (p q : Nat × D), (l ++ [(x, d)])[i]? = some p → (l ++ [(x, d)])[i + 1]? = some q → p.1 < q.1 := fun i p q hp hq => by
  have hlt := lt_at hq
  rw [List.length_append] at hlt
  have e1 : [(x, d)].length = 1 := rfl
  rw [List.getElem?_append_left (by omega)] at hp
  by_cases hi : i + 1 < l.length
  · rw [List.getElem?_append_left hi] at hq
    exact h i p q hp hq
  · have hi : i + 1 = l.length := by omega
    rw [hi] at hq
    have hq : q = (x, d) := by simpa using hq.symm
    subst hq
    exact hx p (mem_at hp)
end Rd

set_option Elab.async false
set_option linter.all false
set_option autoImplicit false
set_option maxRecDepth 100000
set_option maxHeartbeats 4000000
/-! readings for k86: any text, its first bad line -/
namespace Ry
open PySem PySem.Spec PyProof.Rows L2 DH Bd Rd
local macro_rules | `(tactic| walk_at "if") => `(tactic| first | (refine ⟨fun _ => ?_, fun hc => absurd hc (by decide)⟩) | (refine ⟨fun hc => absurd hc (by decide), fun _ => ?_⟩))
structure TY where
  w : Nat
  ins : List Str
  needs : List D
  lets : List (Str × D)
  outs : List (Int × D)
def outI (l : List (Int × D)) : List D := l.map fun p => .tup [.int p.1, p.2]
def TY.known (t : TY) (i : Nat) : List Str := t.ins ++ (t.lets.take i).map Prod.fst
def TY.fs (t : TY) : List (Str × D) := [("width", .int t.w), ("inputs", .tup (t.ins.map .str)), ("needs", .tup t.needs), ("lets", .tup (letD t.lets)), ("outs", .tup (outI t.outs))]
/-- what a text may hold at all -/
structure TY.Fit (t : TY) : Prop where
  w9 : t.w ≤ 9
  ni : t.ins.length ≤ 200
  nn : t.needs.length ≤ 200
  nl : t.lets.length ≤ 200
  no : t.outs.length ≤ 200
  si : ∀ s ∈ t.ins, s.length ≤ 1000
  fn : ∀ d ∈ t.needs, tree d = true
  fl : ∀ p ∈ t.lets, p.1.length ≤ 1000 ∧ tree p.2 = true
  fo : ∀ p ∈ t.outs, tree p.2 = true
structure TyM (cl : CF) (C : Addr) (M : Mm) (a : Addr) (t : TY) : Prop where
  at_ : M a = some (.ins C t.fs)
  cl : ClT cl C
theorem TyM.ext {cl : CF} {C a : Addr} {M M' : Mm} {t : TY} (h : TyM cl C M a t) (e : Ext M M') : TyM cl C M' a t := ⟨e _ _ h.at_, h.cl⟩
theorem outI_at {l : List (Int × D)} {i : Nat} {p : Int × D} (h : l[i]? = some p) : (outI l)[i]? = some (.tup [.int p.1, p.2]) := by unfold outI; rw [List.getElem?_map, h]; rfl
theorem outI_len (l : List (Int × D)) : (outI l).length = l.length := by unfold outI; rw [List.length_map]
def valN (s : Str) : Bool := isNameS s && !isOpS s
def badI (t : TY) (i : Nat) : Bool := match t.ins[i]? with
  | some s => (!valN s || decide (s ∈ t.ins.take i)) || (decide (4 ≤ i) || decide (8 < t.w * (i + 1)))
  | none => false
def badN (t : TY) (i : Nat) : Bool := match t.needs[i]? with
  | some d => decide (2 ≤ i) || !formD t.w t.ins 15 d
  | none => false
def badL (t : TY) (i : Nat) : Bool := match t.lets[i]? with
  | some p => (!valN p.1 || (decide (p.1 ∈ t.known i) || decide (60 ≤ i))) || !formD t.w (t.known i) 15 p.2
  | none => false
def lowO (t : TY) (i : Nat) (r : Int) : Bool := match i with
  | 0 => false
  | j + 1 => match t.outs[j]? with
    | some q => decide (r ≤ q.1)
    | none => false
def badO (t : TY) (i : Nat) : Bool := match t.outs[i]? with
  | some p => (!(decide (0 ≤ p.1) && decide (p.1 ≤ 3)) || lowO t i p.1) || !formD t.w (t.known t.lets.length) 15 p.2
  | none => false
def sp_bad_input (cl : CF) (C : Addr) : DSp := fun ds M Q _ => ∃ (a : Addr) (t : TY) (i : Nat), ds = [.ref a, .int i] ∧ TyM cl C M a t ∧ t.Fit ∧ i < t.ins.length ∧ Q (.bl (badI t i)) M
theorem r_bad_input (cl : CF) (C : Addr) : ∀ ds M Q E, sp_bad_input cl C ds M Q E → b_bad_input cl sp_is_value_name (En Q) (startD 3 ds) M := by
  rintro ds M Q E ⟨a, t, i, rfl, tx, ok, hi, h⟩
  have hat := getE hi
  have hs := ok.si _ (List.getElem_mem hi)
  generalize t.ins[i] = s at hat hs
  have hiN : ((t.ins.map D.str))[i]? = some (.str s) := by rw [List.getElem?_map, hat]; rfl
  have ni := ok.ni
  have w9 := ok.w9
  simp only [badI, hat] at h
  refine ⟨_, _, _, _, rfl, tx.at_, tx.cl _ (by simp), rfl, ?_⟩
  refine ⟨.str s, atI_nat hiN, ?_⟩
  refine ⟨s, rfl, hs, fun hb => ?_, fun hb => ?_⟩
  · have hb : (!valN s) = true := hb
    walk_at "if"
    exact qb h (by rw [hb]; rfl)
  have hb : (!valN s) = false := hb
  refine ⟨_, _, _, _, rfl, tx.at_, tx.cl _ (by simp), rfl, ?_⟩
  have ec : cutL D (t.ins.map D.str) none (some (i : Int)) = (t.ins.take i).map D.str := by rw [cutTo D _ i (by rw [List.length_map]; omega), List.map_take]
  refine ⟨rfl, by rw [ec]; exact flat_strs _, ?_⟩
  rw [ec, inD_strs]
  refine ⟨fun hc => ?_, fun hc => ?_⟩
  · have hc : decide (s ∈ t.ins.take i) = true := hc
    exact qb h (by rw [hc, Bool.or_true]; rfl)
  have hc : decide (s ∈ t.ins.take i) = false := hc
  rw [hb, hc] at h
  have e1 : decide ((4 : Int) ≤ (i : Int)) = decide (4 ≤ i) := by rw [Bool.eq_iff_iff]; simp; omega
  refine ⟨fun hd => ?_, fun hd => ?_⟩
  · have hd : decide ((4 : Int) ≤ (i : Int)) = true := hd
    refine qb h ?_
    rw [← e1, hd]; rfl
  have hd : decide ((4 : Int) ≤ (i : Int)) = false := hd
  refine ⟨_, _, _, _, rfl, tx.at_, tx.cl _ (by simp), rfl, ?_⟩
  refine ⟨.inl ⟨by omega, by omega⟩, ?_⟩
  refine qb h ?_
  rw [← e1, hd]
  show decide ((8 : Int) < (t.w : Int) * ((i : Int) + 1)) = decide (8 < t.w * (i + 1))
  rw [Bool.eq_iff_iff, decide_eq_true_eq, decide_eq_true_eq]
  have h3 : ((t.w * (i + 1) : Nat) : Int) = (t.w : Int) * ((i : Int) + 1) := by push_cast; rfl
  rw [← h3]; omega
def sp_bad_let (cl : CF) (C : Addr) : DSp := fun ds M Q _ => ∃ (a : Addr) (t : TY) (i : Nat), ds = [.ref a, .int i] ∧ TyM cl C M a t ∧ t.Fit ∧ i < t.lets.length ∧ RetV M Q (.bl (badL t i))
theorem r_bad_let (cl : CF) (C : Addr) : ∀ ds M Q E, sp_bad_let cl C ds M Q E → b_bad_let cl sp_is_value_name sp_is_formula (En Q) (startD 6 ds) M := by
  rintro ds M Q E ⟨a, t, i, rfl, tx, ok, hi, h⟩
  have hat := getE hi
  obtain ⟨hp1, hp2⟩ := ok.fl _ (List.getElem_mem hi)
  generalize t.lets[i] = p at hat hp1 hp2
  have ni := ok.ni
  have nl := ok.nl
  have w9 := ok.w9
  simp only [badL, hat] at h
  refine ⟨_, _, _, _, rfl, tx.at_, tx.cl _ (by simp), rfl, ?_⟩
  refine ⟨_, atI_nat (letD_at hat), rfl, ?_⟩
  refine ⟨_, _, _, _, rfl, tx.at_, tx.cl _ (by simp), rfl, ?_⟩
  refine fun q hq => ?_
  have e1 : Ext M (updM M q (.lst (t.ins.map .str))) := Ext.new hq
  have hqm : updM M q (.lst (t.ins.map .str)) q = some (.lst (t.ins.map .str)) := updM_same
  generalize updM M q (.lst (t.ins.map .str)) = M1 at e1 hqm ⊢
  refine ⟨_, _, _, _, rfl, (tx.ext e1).at_, tx.cl _ (by simp), rfl, ?_⟩
  have ec : cutL D (letD t.lets) none (some (i : Int)) = letD (t.lets.take i) := by
    rw [cutTo D _ i (by unfold letD; rw [List.length_map]; omega)]
    unfold letD
    rw [List.map_take]
  refine fun r hr => ?_
  refine ⟨fun j acc M' => Ext M1 M' ∧ M' r = some (.lst acc) ∧ acc = ((t.lets.take i).take j).map (fun p => D.str p.1), ⟨Ext.new hr, updM_same, rfl⟩, fun _ _ _ _ => trivial, ?_, ?_⟩
  · rintro j acc M' d hd ⟨hx, hr2, rfl⟩
    rw [ec] at hd
    unfold letD at hd
    rw [List.getElem?_map] at hd
    obtain ⟨p', hp', rfl⟩ := Option.map_eq_some_iff.mp hd
    refine ⟨fun _ => ⟨_, at0, hr2, tolist (by rw [List.length_map, List.length_take, List.length_take]; omega), hx.mut hr, updM_same, ?_⟩, fun hc => absurd hc (by decide)⟩
    rw [take_snoc hp', List.map_append]; rfl
  · rintro acc M' ⟨hx, hr2, rfl⟩
    rw [ec, show (letD (t.lets.take i)).length = (t.lets.take i).length by unfold letD; rw [List.length_map], List.take_length] at hr2
    refine ⟨_, _, hx _ _ hqm, hr2, by rw [List.length_map, List.length_map, List.length_take]; exact Nat.le_of_lt (tolist (by omega)), fun s hs => ?_⟩
    have e2 := (e1.trans hx).trans (Ext.new (o := .lst (t.ins.map D.str ++ (t.lets.take i).map (fun p => D.str p.1))) hs)
    have hk : t.ins.map D.str ++ (t.lets.take i).map (fun p => D.str p.1) = (t.known i).map D.str := by unfold TY.known; rw [List.map_append, List.map_map]; rfl
    have hsm : updM M' s (.lst (t.ins.map D.str ++ (t.lets.take i).map (fun p => D.str p.1))) s = some (.lst ((t.known i).map .str)) := by rw [updM_same, hk]
    generalize updM M' s (.lst (t.ins.map D.str ++ (t.lets.take i).map (fun p => D.str p.1))) = M2 at e2 hsm ⊢
    have h := h M2 e2
    refine ⟨p.1, rfl, hp1, fun hb => ?_, fun hb => ?_⟩
    · have hb : (!valN p.1) = true := hb
      walk_at "if"
      exact qb h (by rw [hb]; rfl)
    have hb : (!valN p.1) = false := hb
    refine .inl ⟨_, hsm, rfl, flat_strs _, ?_⟩
    rw [inD_strs]
    refine ⟨fun hc => ?_, fun hc => ?_⟩
    · have hc : decide (p.1 ∈ t.known i) = true := hc
      walk_at "if"
      exact qb h (by rw [hc, Bool.true_or, Bool.or_true]; rfl)
    have hc : decide (p.1 ∈ t.known i) = false := hc
    have e60 : decide ((60 : Int) ≤ (i : Int)) = decide (60 ≤ i) := by rw [Bool.eq_iff_iff]; simp; omega
    refine ⟨fun hd => ?_, fun hd => ?_⟩
    · have hd : decide ((60 : Int) ≤ (i : Int)) = true := hd
      exact qb h (by rw [← e60, hd, Bool.or_true, Bool.or_true]; rfl)
    have hd : decide ((60 : Int) ≤ (i : Int)) = false := hd
    refine ⟨_, _, _, _, rfl, (tx.ext e2).at_, tx.cl _ (by simp), rfl, ?_⟩
    refine ⟨p.2, .ref s, t.w, 15, t.known i, rfl, .inr ⟨s, rfl, hsm⟩, hp2, by omega, ?_⟩
    refine qb h ?_
    rw [← e60, hb, hc, hd]; rfl
def sp_bad_out (cl : CF) (C : Addr) : DSp := fun ds M Q _ => ∃ (a : Addr) (t : TY) (i : Nat), ds = [.ref a, .int i] ∧ TyM cl C M a t ∧ t.Fit ∧ i < t.outs.length ∧ RetV M Q (.bl (badO t i))
theorem r_bad_out (cl : CF) (C : Addr) : ∀ ds M Q E, sp_bad_out cl C ds M Q E → b_bad_out cl sp_is_formula (En Q) (startD 6 ds) M := by
  rintro ds M Q E ⟨a, t, i, rfl, tx, ok, hi, h⟩
  have hat := getE hi
  have hp2 := ok.fo _ (List.getElem_mem hi)
  generalize t.outs[i] = p at hat hp2
  have ni := ok.ni
  have nl := ok.nl
  have w9 := ok.w9
  simp only [badO, hat] at h
  refine ⟨_, _, _, _, rfl, tx.at_, tx.cl _ (by simp), rfl, ?_⟩
  refine ⟨_, atI_nat (outI_at hat), rfl, ?_⟩
  refine ⟨_, _, _, _, rfl, tx.at_, tx.cl _ (by simp), rfl, ?_⟩
  refine fun q hq => ?_
  have e1 : Ext M (updM M q (.lst (t.ins.map .str))) := Ext.new hq
  have hqm : updM M q (.lst (t.ins.map .str)) q = some (.lst (t.ins.map .str)) := updM_same
  generalize updM M q (.lst (t.ins.map .str)) = M1 at e1 hqm ⊢
  refine ⟨_, _, _, _, rfl, (tx.ext e1).at_, tx.cl _ (by simp), rfl, ?_⟩
  refine fun r hr => ?_
  refine ⟨fun j acc M' => Ext M1 M' ∧ M' r = some (.lst acc) ∧ acc = (t.lets.take j).map (fun p => D.str p.1), ⟨Ext.new hr, updM_same, rfl⟩, fun _ _ _ _ => trivial, ?_, ?_⟩
  · rintro j acc M' d hd ⟨hx, hr2, rfl⟩
    unfold letD at hd
    rw [List.getElem?_map] at hd
    obtain ⟨p', hp', rfl⟩ := Option.map_eq_some_iff.mp hd
    refine ⟨fun _ => ⟨_, at0, hr2, tolist (by rw [List.length_map, List.length_take]; omega), hx.mut hr, updM_same, ?_⟩, fun hc => absurd hc (by decide)⟩
    rw [take_snoc hp', List.map_append]; rfl
  · rintro acc M' ⟨hx, hr2, rfl⟩
    rw [show (letD t.lets).length = t.lets.length by unfold letD; rw [List.length_map]] at hr2
    refine ⟨_, _, hx _ _ hqm, hr2, by rw [List.length_map, List.length_map, List.length_take]; exact Nat.le_of_lt (tolist (by omega)), fun s hs => ?_⟩
    have e2 := (e1.trans hx).trans (Ext.new (o := .lst (t.ins.map D.str ++ (t.lets.take t.lets.length).map (fun p => D.str p.1))) hs)
    have hk : t.ins.map D.str ++ (t.lets.take t.lets.length).map (fun p => D.str p.1) = (t.known t.lets.length).map D.str := by unfold TY.known; rw [List.map_append, List.map_map]; rfl
    have hsm : updM M' s (.lst (t.ins.map D.str ++ (t.lets.take t.lets.length).map (fun p => D.str p.1))) s = some (.lst ((t.known t.lets.length).map .str)) := by rw [updM_same, hk]
    generalize updM M' s (.lst (t.ins.map D.str ++ (t.lets.take t.lets.length).map (fun p => D.str p.1))) = M2 at e2 hsm ⊢
    have h := h M2 e2
    have rest : (decide (0 ≤ p.1) && decide (p.1 ≤ 3)) = true → lowO t i p.1 = false → dFld cl "width" (dVar 0) [some (.ref a), some (.int (i : Int)), some (.int p.1), some p.2, some (.ref s), none] M2 fun x M3 => sp_is_formula [p.2, x, .ref s, .int 15] M3 (fun d M1 => match d with
        | .bl b => Q (.bl (!b)) M1
        | _ => False) EX0 := fun g1 g2 => by
      refine ⟨_, _, _, _, rfl, (tx.ext e2).at_, tx.cl _ (by simp), rfl, ?_⟩
      refine ⟨p.2, .ref s, t.w, 15, t.known t.lets.length, rfl, .inr ⟨s, rfl, hsm⟩, hp2, by omega, ?_⟩
      exact qb h (by rw [g1, g2]; rfl)
    have out : (decide (0 ≤ p.1) && decide (p.1 ≤ 3)) = false → Q (.bl true) M2 := fun g => qb h (by rw [g]; rfl)
    refine ⟨fun h0 => ?_, fun h0 => ?_⟩
    · have h0 : decide ((0 : Int) ≤ p.1) = true := h0
      refine ⟨fun h3 => ?_, fun h3 => ?_⟩
      · walk_at "if"
        refine out ?_
        have h3 : decide (p.1 ≤ 3) = false := by simpa using h3
        rw [h3, Bool.and_false]
      have h3 : decide (p.1 ≤ 3) = true := by simpa using h3
      have g1 : (decide (0 ≤ p.1) && decide (p.1 ≤ 3)) = true := by rw [h0, h3]; rfl
      refine ⟨fun hp => ?_, fun hp => ⟨fun hc => absurd hc (by decide), fun _ => rest g1 ?_⟩⟩
      · have hp := of_decide_eq_true hp
        match i, hi, hat, hp with
        | 0, _, _, hp => exact absurd hp (by decide)
        | i + 1, hi, hat, _ =>
          have hat2 := getE (show i < t.outs.length by omega)
          generalize t.outs[i] = p' at hat2
          have hlow : lowO t (i + 1) p.1 = decide (p.1 ≤ p'.1) := by simp only [lowO, hat2]
          refine ⟨_, _, _, _, rfl, (tx.ext e2).at_, tx.cl _ (by simp), rfl, ?_⟩
          refine ⟨.tup [.int p'.1, p'.2], ?_, _, at0, fun hc => ?_, fun hc => rest g1 ?_⟩
          · rw [show (((i + 1 : Nat) : Int) - 1) = (i : Int) by omega]
            exact atI_nat (outI_at hat2)
          · have hc : decide (p.1 ≤ p'.1) = true := hc
            exact qb h (by rw [hlow, hc, Bool.or_true]; rfl)
          · rw [hlow]; exact hc
      · have hp : i = 0 := by have := of_decide_eq_false hp; omega
        subst hp
        rfl
    · have h0 : decide ((0 : Int) ≤ p.1) = false := h0
      walk_at "if"
      walk_at "if"
      refine out ?_
      rw [h0]; rfl
end Ry

set_option Elab.async false
set_option linter.all false
set_option autoImplicit false
set_option maxRecDepth 100000
set_option maxHeartbeats 4000000
/-! readings for k86: the first bad line, a text is made or refused -/
namespace Ry
open PySem PySem.Spec PyProof.Rows L2 DH Bd Rd
local macro_rules | `(tactic| walk_at "if") => `(tactic| first | (refine ⟨fun _ => ?_, fun hc => absurd hc (by decide)⟩) | (refine ⟨fun hc => absurd hc (by decide), fun _ => ?_⟩))
def scanF (bad : Nat → Bool) (base rest : Nat) : Nat → Nat → Nat
  | 0, _ => rest
  | n + 1, i => if bad i = true then base + i + 1 else scanF bad base rest n (i + 1)
theorem scan_hit {bad : Nat → Bool} {base rest n i : Nat} (h : i < n) (hb : bad i = true) : scanF bad base rest (n - i) i = base + i + 1 := by
  obtain ⟨m, e⟩ : ∃ m, n - i = m + 1 := ⟨n - i - 1, by omega⟩
  rw [e]
  simp only [scanF, hb, if_true]
theorem scan_go {bad : Nat → Bool} {base rest n i : Nat} (h : i < n) (hb : bad i = false) : scanF bad base rest (n - i) i = scanF bad base rest (n - (i + 1)) (i + 1) := by
  obtain ⟨m, e⟩ : ∃ m, n - i = m + 1 := ⟨n - i - 1, by omega⟩
  rw [e, show n - (i + 1) = m by omega]
  simp only [scanF, hb]
  rw [if_neg (by decide)]
theorem scan_end {bad : Nat → Bool} {base rest n : Nat} : scanF bad base rest (n - n) n = rest := by
  rw [Nat.sub_self]; rfl
def TY.b1 (t : TY) : Nat := 1 + t.ins.length
def TY.b2 (t : TY) : Nat := t.b1 + t.needs.length
def TY.b3 (t : TY) : Nat := t.b2 + t.lets.length
def TY.d4 (t : TY) : Nat := scanF (badO t) t.b3 0 t.outs.length 0
def TY.d3 (t : TY) : Nat := scanF (badL t) t.b2 t.d4 t.lets.length 0
def TY.d2 (t : TY) : Nat := scanF (badN t) t.b1 t.d3 t.needs.length 0
def TY.d1 (t : TY) : Nat := scanF (badI t) 1 t.d2 t.ins.length 0
def TY.due (t : TY) : Nat := if 1 ≤ t.w ∧ t.w ≤ 4 then t.d1 else 1
def sp_first_bad_line (cl : CF) (C : Addr) : DSp := fun ds M Q _ => ∃ (a : Addr) (t : TY), ds = [.ref a] ∧ TyM cl C M a t ∧ t.Fit ∧ RetV M Q (.int (t.due : Nat))
theorem r_first_bad_line (cl : CF) (C : Addr) : ∀ ds M Q E, sp_first_bad_line cl C ds M Q E → b_first_bad_line cl (sp_bad_input cl C) sp_is_formula (sp_bad_let cl C) (sp_bad_out cl C) (En Q) (startD 3 ds) M := by
  rintro ds M Q E ⟨a, t, rfl, tx, ok, h⟩
  have ni := ok.ni
  have nn := ok.nn
  have nl := ok.nl
  have no := ok.no
  have w9 := ok.w9
  have q1 : (t.ins.map D.str).length = t.ins.length := List.length_map _
  have q2 := letD_len t.lets
  have q3 := outI_len t.outs
  have early : ¬ (1 ≤ t.w ∧ t.w ≤ 4) → Q (.int 1) M := fun hn => by
    have := h M (Ext.refl _)
    unfold TY.due at this
    rw [if_neg hn] at this
    exact this
  refine ⟨_, _, _, _, rfl, tx.at_, tx.cl _ (by simp), rfl, ?_⟩
  refine ⟨fun w1 => ⟨fun hc => ?_, fun hc => ?_⟩, fun w1 => ?_⟩
  · exact early fun ⟨_, h4⟩ => absurd hc (by simp; omega)
  rotate_left
  · walk_at "if"
    exact early fun ⟨h1, _⟩ => absurd (of_decide_eq_false w1) (by omega)
  have w1 := of_decide_eq_true w1
  have w4 : t.w ≤ 4 := by
    have : (!decide ((t.w : Int) ≤ 4)) = false := hc
    have : decide ((t.w : Int) ≤ 4) = true := by simpa using this
    have := of_decide_eq_true this
    omega
  have hdue : t.due = t.d1 := by
    unfold TY.due
    rw [if_pos ⟨by omega, w4⟩]
  rw [hdue] at h
  refine ⟨_, _, _, _, rfl, tx.at_, tx.cl _ (by simp), rfl, ?_⟩
  refine ⟨by omega, by omega, ?_⟩
  refine ⟨fun i E M' => Ext M M' ∧ t.d1 = scanF (badI t) 1 t.d2 (t.ins.length - i) i ∧ ∃ l : Int, ∃ x, l = ((1 + i : Nat) : Int) ∧ E = [some (.ref a), some (.int l), x], ⟨Ext.refl _, rfl, 1, none, rfl, rfl⟩, fun _ _ _ _ => trivial, ?_, ?_⟩
  · rintro i E M' d hd ⟨hx, hs, l, x, hl, rfl⟩
    obtain ⟨hi, rfl⟩ := rng_at hd
    have hi : i < t.ins.length := by have : i < (((t.ins.map D.str).length : Nat) : Int).toNat := hi; omega
    rw [Int.zero_add]
    refine ⟨a, t, i, rfl, tx.ext hx, ok, hi, fun hb => ?_, fun hb => ?_⟩
    · refine qi (h M' hx) ?_
      rw [hs, scan_hit hi hb, hl]; omega
    · exact ⟨hx, by rw [hs]; exact scan_go hi hb, _, _, by rw [hl]; omega, rfl⟩
  rintro E M' ⟨hx, hs, l, x, hl, rfl⟩
  have e0 : (rngD 0 (((t.ins.map D.str).length : Nat) : Int).toNat).length = t.ins.length := by rw [rng_len]; omega
  have hs : t.d1 = scanF (badI t) 1 t.d2 (t.ins.length - (rngD 0 (((t.ins.map D.str).length : Nat) : Int).toNat).length) (rngD 0 (((t.ins.map D.str).length : Nat) : Int).toNat).length := hs
  have hl : l = ((1 + (rngD 0 (((t.ins.map D.str).length : Nat) : Int).toNat).length : Nat) : Int) := hl
  rw [e0] at hs hl
  rw [scan_end] at hs
  rw [hs] at h
  refine ⟨_, _, _, _, rfl, (tx.ext hx).at_, tx.cl _ (by simp), rfl, ?_⟩
  refine ⟨by omega, by omega, ?_⟩
  refine ⟨fun i E M' => Ext M M' ∧ t.d2 = scanF (badN t) t.b1 t.d3 (t.needs.length - i) i ∧ ∃ l : Int, ∃ x, l = ((t.b1 + i : Nat) : Int) ∧ E = [some (.ref a), some (.int l), x], ⟨hx, rfl, l, x, by rw [hl]; rfl, rfl⟩, fun _ _ _ _ => trivial, ?_, ?_⟩
  · rintro i E M' d hd ⟨hx, hs, l, x, hl, rfl⟩
    obtain ⟨hi, rfl⟩ := rng_at hd
    have hi : i < t.needs.length := by have : i < ((t.needs.length : Nat) : Int).toNat := hi; omega
    rw [Int.zero_add]
    have hat := getE hi
    have hf := ok.fn _ (List.getElem_mem hi)
    generalize t.needs[i] = d at hat hf
    have hbad : badN t i = (decide (2 ≤ i) || !formD t.w t.ins 15 d) := by simp only [badN, hat]
    have e2 : decide ((2 : Int) ≤ (i : Int)) = decide (2 ≤ i) := by rw [Bool.eq_iff_iff]; simp; omega
    refine ⟨fun hb => ?_, fun hb => ?_⟩
    · have hb : decide ((2 : Int) ≤ (i : Int)) = true := hb
      walk_at "if"
      refine qi (h M' hx) ?_
      rw [hs, scan_hit hi (by rw [hbad, ← e2, hb]; rfl), hl]; omega
    have hb : decide ((2 : Int) ≤ (i : Int)) = false := hb
    refine ⟨_, _, _, _, rfl, (tx.ext hx).at_, tx.cl _ (by simp), rfl, ?_⟩
    refine ⟨_, atI_nat hat, ?_⟩
    refine ⟨_, _, _, _, rfl, (tx.ext hx).at_, tx.cl _ (by simp), rfl, ?_⟩
    refine ⟨_, _, _, _, rfl, (tx.ext hx).at_, tx.cl _ (by simp), rfl, ?_⟩
    refine ⟨d, .tup (t.ins.map .str), t.w, 15, t.ins, rfl, .inl rfl, hf, by omega, fun hc => ?_, fun hc => ?_⟩
    · have hc : (!formD t.w t.ins 15 d) = true := hc
      refine qi (h M' hx) ?_
      rw [hs, scan_hit hi (by rw [hbad, hc, Bool.or_true]), hl]; omega
    · have hc : (!formD t.w t.ins 15 d) = false := hc
      exact ⟨hx, by rw [hs]; exact scan_go hi (by rw [hbad, ← e2, hb, hc]; rfl), _, _, by rw [hl]; omega, rfl⟩
  rintro E M' ⟨hx, hs, l, x, hl, rfl⟩
  have e0 : (rngD 0 ((t.needs.length : Nat) : Int).toNat).length = t.needs.length := by rw [rng_len]; omega
  have hs : t.d2 = scanF (badN t) t.b1 t.d3 (t.needs.length - (rngD 0 ((t.needs.length : Nat) : Int).toNat).length) (rngD 0 ((t.needs.length : Nat) : Int).toNat).length := hs
  have hl : l = ((t.b1 + (rngD 0 ((t.needs.length : Nat) : Int).toNat).length : Nat) : Int) := hl
  rw [e0] at hs hl
  rw [scan_end] at hs
  rw [hs] at h
  refine ⟨_, _, _, _, rfl, (tx.ext hx).at_, tx.cl _ (by simp), rfl, ?_⟩
  refine ⟨by omega, by omega, ?_⟩
  refine ⟨fun i E M' => Ext M M' ∧ t.d3 = scanF (badL t) t.b2 t.d4 (t.lets.length - i) i ∧ ∃ l : Int, ∃ x, l = ((t.b2 + i : Nat) : Int) ∧ E = [some (.ref a), some (.int l), x], ⟨hx, rfl, l, x, by rw [hl]; rfl, rfl⟩, fun _ _ _ _ => trivial, ?_, ?_⟩
  · rintro i E M' d hd ⟨hx, hs, l, x, hl, rfl⟩
    obtain ⟨hi, rfl⟩ := rng_at hd
    have hi : i < t.lets.length := by have : i < (((letD t.lets).length : Nat) : Int).toNat := hi; omega
    rw [Int.zero_add]
    refine ⟨a, t, i, rfl, tx.ext hx, ok, hi, fun M2 e2 => ⟨fun hb => ?_, fun hb => ?_⟩⟩
    · refine qi (h M2 (hx.trans e2)) ?_
      rw [hs, scan_hit hi hb, hl]; omega
    · exact ⟨hx.trans e2, by rw [hs]; exact scan_go hi hb, _, _, by rw [hl]; omega, rfl⟩
  rintro E M' ⟨hx, hs, l, x, hl, rfl⟩
  have e0 : (rngD 0 (((letD t.lets).length : Nat) : Int).toNat).length = t.lets.length := by rw [rng_len]; omega
  have hs : t.d3 = scanF (badL t) t.b2 t.d4 (t.lets.length - (rngD 0 (((letD t.lets).length : Nat) : Int).toNat).length) (rngD 0 (((letD t.lets).length : Nat) : Int).toNat).length := hs
  have hl : l = ((t.b2 + (rngD 0 (((letD t.lets).length : Nat) : Int).toNat).length : Nat) : Int) := hl
  rw [e0] at hs hl
  rw [scan_end] at hs
  rw [hs] at h
  refine ⟨_, _, _, _, rfl, (tx.ext hx).at_, tx.cl _ (by simp), rfl, ?_⟩
  refine ⟨by omega, by omega, ?_⟩
  refine ⟨fun i E M' => Ext M M' ∧ t.d4 = scanF (badO t) t.b3 0 (t.outs.length - i) i ∧ ∃ l : Int, ∃ x, l = ((t.b3 + i : Nat) : Int) ∧ E = [some (.ref a), some (.int l), x], ⟨hx, rfl, l, x, by rw [hl]; rfl, rfl⟩, fun _ _ _ _ => trivial, ?_, ?_⟩
  · rintro i E M' d hd ⟨hx, hs, l, x, hl, rfl⟩
    obtain ⟨hi, rfl⟩ := rng_at hd
    have hi : i < t.outs.length := by have : i < (((outI t.outs).length : Nat) : Int).toNat := hi; omega
    rw [Int.zero_add]
    refine ⟨a, t, i, rfl, tx.ext hx, ok, hi, fun M2 e2 => ⟨fun hb => ?_, fun hb => ?_⟩⟩
    · refine qi (h M2 (hx.trans e2)) ?_
      rw [hs, scan_hit hi hb, hl]; omega
    · exact ⟨hx.trans e2, by rw [hs]; exact scan_go hi hb, _, _, by rw [hl]; omega, rfl⟩
  rintro E M' ⟨hx, hs, l, x, hl, rfl⟩
  have e0 : (rngD 0 (((outI t.outs).length : Nat) : Int).toNat).length = t.outs.length := by rw [rng_len]; omega
  have hs : t.d4 = scanF (badO t) t.b3 0 (t.outs.length - (rngD 0 (((outI t.outs).length : Nat) : Int).toNat).length) (rngD 0 (((outI t.outs).length : Nat) : Int).toNat).length := hs
  rw [e0, scan_end] at hs
  rw [hs] at h
  exact h M' hx
end Ry

set_option Elab.async false
set_option linter.all false
set_option autoImplicit false
set_option maxRecDepth 100000
set_option maxHeartbeats 4000000
/-! readings for k86: a text is made or refused -/
namespace Ry
open PySem PySem.Spec PyProof.Rows L2 DH Bd Rd
local macro_rules | `(tactic| walk_at "if") => `(tactic| first | (refine ⟨fun _ => ?_, fun hc => absurd hc (by decide)⟩) | (refine ⟨fun hc => absurd hc (by decide), fun _ => ?_⟩))
/-- all but a stays -/
def But (a : Addr) (M M' : Mm) : Prop := ∀ b o, b ≠ a → M b = some o → M' b = some o
theorem But.refl (a : Addr) (M : Mm) : But a M M := fun _ _ _ h => h
theorem But.trans {a : Addr} {M M1 M2 : Mm} (x : But a M M1) (y : But a M1 M2) : But a M M2 := fun b o n h => y b o n (x b o n h)
theorem But.set {a : Addr} {M M' : Mm} {o : MO} (x : But a M M') : But a M (updM M' a o) := fun b u n h => by rw [updM_ne n]; exact x b u n h
theorem But.ofExt {a : Addr} {M M' : Mm} (e : Ext M M') : But a M M' := fun b o _ h => e b o h
theorem scan_le (bad : Nat → Bool) (base rest B : Nat) (hr : rest ≤ B) : ∀ n i, base + i + n ≤ B → scanF bad base rest n i ≤ B
  | 0, i, _ => hr
  | n + 1, i, h => by
    simp only [scanF]
    split
    · omega
    · exact scan_le bad base rest B hr n (i + 1) (by omega)
theorem due_le {t : TY} (ok : t.Fit) : t.due ≤ 1000 := by
  have ni := ok.ni
  have nn := ok.nn
  have nl := ok.nl
  have no := ok.no
  have h4 : t.d4 ≤ 1000 := scan_le _ _ _ _ (by omega) _ _ (by unfold TY.b3 TY.b2 TY.b1; omega)
  have h3 : t.d3 ≤ 1000 := scan_le _ _ _ _ h4 _ _ (by unfold TY.b2 TY.b1; omega)
  have h2 : t.d2 ≤ 1000 := scan_le _ _ _ _ h3 _ _ (by unfold TY.b1; omega)
  have h1 : t.d1 ≤ 1000 := scan_le _ _ _ _ h2 _ _ (by omega)
  unfold TY.due
  split
  · exact h1
  · decide
abbrev EnX (Q : DQ) (E : DX) : DEnds := { nx := fun _ M' => Q .non M', rt := Q, xc := fun cls d _ M' => E cls d M' }
def sp_Text (cl : CF) (C cB : Addr) : DSp := fun ds M Q E => ∃ (a q1 q2 q3 q4 : Addr) (t : TY), ds = [.ref a, .int t.w, .ref q1, .ref q2, .ref q3, .ref q4] ∧ ClT cl C ∧ M a = some (.ins C []) ∧ M q1 = some (.lst (t.ins.map .str)) ∧ M q2 = some (.lst t.needs) ∧ M q3 = some (.lst (letD t.lets)) ∧ M q4 = some (.lst (outI t.outs)) ∧
  t.Fit ∧ (t.due = 0 → ∀ M', But a M M' → TyM cl C M' a t → Q .non M') ∧ (0 < t.due → ∀ d M', But a M M' → M' d = some (.xd [("line", .int t.due)]) → E (.ref cB) (some d) M')
theorem r_Text__init___v3 (cl : CF) (C cB : Addr) : ∀ ds M Q E, sp_Text cl C cB ds M Q E → b_Text__init___v3 cl cB (sp_first_bad_line cl C) (EnX Q E) (startD 10 ds) M := by
  rintro ds M Q E ⟨a, q1, q2, q3, q4, t, rfl, hcl, ha, h1, h2, h3, h4, ok, h, hE⟩
  have n1 : q1 ≠ a := fun z => by subst z; rw [ha] at h1; cases h1
  have n2 : q2 ≠ a := fun z => by subst z; rw [ha] at h2; cases h2
  have n3 : q3 ≠ a := fun z => by subst z; rw [ha] at h3; cases h3
  have n4 : q4 ≠ a := fun z => by subst z; rw [ha] at h4; cases h4
  have nl := ok.nl
  have no := ok.no
  refine ⟨a, C, [], rfl, ha, hcl _ (by simp), by decide, ?_⟩
  have b1 : But a M (updM M a (.ins C [("width", .int t.w)])) := (But.refl a M).set
  have a1 : updM M a (.ins C [("width", .int t.w)]) a = some (.ins C [("width", .int t.w)]) := updM_same
  show dSeq _ _ _ _ (updM M a (.ins C [("width", .int t.w)]))
  generalize updM M a (.ins C [("width", .int t.w)]) = M1 at b1 a1 ⊢
  refine ⟨_, b1 _ _ n1 h1, a, C, _, rfl, a1, hcl _ (by simp), (by show 1 < 1000; decide), ?_⟩
  have b2 : But a M (updM M1 a (.ins C [("width", .int t.w), ("inputs", .tup (t.ins.map .str))])) := b1.set
  have a2 : updM M1 a (.ins C [("width", .int t.w), ("inputs", .tup (t.ins.map .str))]) a = some (.ins C [("width", .int t.w), ("inputs", .tup (t.ins.map .str))]) := updM_same
  show dSeq _ _ _ _ (updM M1 a (.ins C [("width", .int t.w), ("inputs", .tup (t.ins.map .str))]))
  generalize updM M1 a (.ins C [("width", .int t.w), ("inputs", .tup (t.ins.map .str))]) = M2 at b2 a2 ⊢
  refine ⟨_, b2 _ _ n2 h2, a, C, _, rfl, a2, hcl _ (by simp), (by show 2 < 1000; decide), ?_⟩
  have b3 : But a M (updM M2 a (.ins C [("width", .int t.w), ("inputs", .tup (t.ins.map .str)), ("needs", .tup t.needs)])) := b2.set
  have a3 : updM M2 a (.ins C [("width", .int t.w), ("inputs", .tup (t.ins.map .str)), ("needs", .tup t.needs)]) a = some (.ins C [("width", .int t.w), ("inputs", .tup (t.ins.map .str)), ("needs", .tup t.needs)]) := updM_same
  show dSeq _ _ _ _ (updM M2 a (.ins C [("width", .int t.w), ("inputs", .tup (t.ins.map .str)), ("needs", .tup t.needs)]))
  generalize updM M2 a (.ins C [("width", .int t.w), ("inputs", .tup (t.ins.map .str)), ("needs", .tup t.needs)]) = M3 at b3 a3 ⊢
  refine ⟨_, b3 _ _ n3 h3, fun p hp => ?_⟩
  have l3 := b3 _ _ n3 h3
  refine ⟨fun i acc M' => Ext M3 M' ∧ M' p = some (.lst acc) ∧ acc = letD (t.lets.take i), ⟨Ext.new hp, updM_same, rfl⟩, fun i acc M' ⟨e, _⟩ => e _ _ l3, ?_, ?_⟩
  · rintro i acc M' d hd ⟨hx, hp2, rfl⟩
    unfold letD at hd
    rw [List.getElem?_map] at hd
    obtain ⟨p', hp', rfl⟩ := Option.map_eq_some_iff.mp hd
    refine ⟨rfl, fun _ => ⟨by show 2 ≤ sizeLine; decide, hp2, by unfold letD; rw [List.length_map, List.length_take]; exact tolist (by omega), hx.mut hp, updM_same, ?_⟩, fun hc => absurd hc (by decide)⟩
    rw [take_snoc hp']; unfold letD; rw [List.map_append]; rfl
  rintro acc M' ⟨hx, hp2, rfl⟩
  rw [show (letD t.lets).length = t.lets.length by unfold letD; rw [List.length_map], List.take_length] at hp2
  have b3' := b3.trans (.ofExt hx)
  refine ⟨_, hp2, a, C, _, rfl, hx _ _ a3, hcl _ (by simp), (by show 3 < 1000; decide), ?_⟩
  have b4 : But a M (updM M' a (.ins C [("width", .int t.w), ("inputs", .tup (t.ins.map .str)), ("needs", .tup t.needs), ("lets", .tup (letD t.lets))])) := b3'.set
  have a4 : updM M' a (.ins C [("width", .int t.w), ("inputs", .tup (t.ins.map .str)), ("needs", .tup t.needs), ("lets", .tup (letD t.lets))]) a = some (.ins C [("width", .int t.w), ("inputs", .tup (t.ins.map .str)), ("needs", .tup t.needs), ("lets", .tup (letD t.lets))]) := updM_same
  show dSeq _ _ _ _ (updM M' a (.ins C [("width", .int t.w), ("inputs", .tup (t.ins.map .str)), ("needs", .tup t.needs), ("lets", .tup (letD t.lets))]))
  generalize updM M' a (.ins C [("width", .int t.w), ("inputs", .tup (t.ins.map .str)), ("needs", .tup t.needs), ("lets", .tup (letD t.lets))]) = M4 at b4 a4 ⊢
  have l4 := b4 _ _ n4 h4
  refine ⟨_, l4, fun p hp => ?_⟩
  refine ⟨fun i acc M' => Ext M4 M' ∧ M' p = some (.lst acc) ∧ acc = outI (t.outs.take i), ⟨Ext.new hp, updM_same, rfl⟩, fun i acc M' ⟨e, _⟩ => e _ _ l4, ?_, ?_⟩
  · rintro i acc M' d hd ⟨hx, hp2, rfl⟩
    unfold outI at hd
    rw [List.getElem?_map] at hd
    obtain ⟨p', hp', rfl⟩ := Option.map_eq_some_iff.mp hd
    refine ⟨rfl, fun _ => ⟨by show 2 ≤ sizeLine; decide, hp2, by rw [outI_len, List.length_take]; exact tolist (by omega), hx.mut hp, updM_same, ?_⟩, fun hc => absurd hc (by decide)⟩
    rw [take_snoc hp']; unfold outI; rw [List.map_append]; rfl
  rintro acc M' ⟨hx, hp2, rfl⟩
  rw [outI_len, List.take_length] at hp2
  have b4' := b4.trans (.ofExt hx)
  refine ⟨_, hp2, a, C, _, rfl, hx _ _ a4, hcl _ (by simp), (by show 4 < 1000; decide), ?_⟩
  have b5 : But a M (updM M' a (.ins C t.fs)) := b4'.set
  have a5 : updM M' a (.ins C t.fs) a = some (.ins C t.fs) := updM_same
  show dSeq _ _ _ _ (updM M' a (.ins C t.fs))
  generalize updM M' a (.ins C t.fs) = M5 at b5 a5 ⊢
  refine ⟨a, t, rfl, ⟨a5, hcl⟩, ok, fun M6 e6 => ⟨fun hb => ?_, fun hb => ?_⟩⟩
  · have hb := of_decide_eq_true hb
    refine ⟨⟨t.due, rfl, due_le ok⟩, fun d hd => hE (by omega) d _ ((b5.trans (.ofExt e6)).trans (.ofExt (Ext.new hd))) updM_same⟩
  · have hb := of_decide_eq_false hb
    exact h (by omega) M6 (b5.trans (.ofExt e6)) ⟨e6 _ _ a5, hcl⟩
end Ry

set_option Elab.async false
set_option linter.all false
set_option autoImplicit false
set_option maxRecDepth 100000
set_option maxHeartbeats 4000000
/-! readings for k86: the law's own checks -/
namespace Ry
open PySem PySem.Spec PyProof.Rows L2 DH Bd Rd
local macro_rules | `(tactic| walk_at "if") => `(tactic| first | (refine ⟨fun _ => ?_, fun hc => absurd hc (by decide)⟩) | (refine ⟨fun hc => absurd hc (by decide), fun _ => ?_⟩))
def arS (s : Str) : Nat := match opOf s with
  | some o => o.ar
  | none => 0
def sp_arity2 : DSp := fun ds M Q _ => ∃ s : Str, ds = [.str s] ∧ RetV M Q (.int (arS s : Nat))
theorem notop {s : Str} (e : opOf s = none) (o : Op) : s ≠ o.nm := fun z => by subst z; rw [opOf_of] at e; cases e
theorem in_list {l : List Str} (s : Str) (M : Mm) (p : Addr) (h : M p = some (.lst (l.map D.str))) (neg : Bool) (Q : DQ) (q : Q (.bl (if neg then !decide (s ∈ l) else decide (s ∈ l))) M) : oIn neg (.str s) (.ref p) M Q := by
  refine .inl ⟨_, h, rfl, flat_strs _, ?_⟩
  rw [inD_strs]; exact q
theorem r__law_arity_v2 : ∀ ds M Q E, sp_arity2 ds M Q E → b__law_arity_v2 (En Q) (startD 1 ds) M := by
  rintro ds M Q E ⟨s, rfl, h⟩
  cases e : opOf s with
  | some o =>
    have es := opOf_nm e
    subst es
    have ha : arS o.nm = o.ar := by unfold arS; rw [opOf_of]
    rw [ha] at h
    refine ⟨by decide, fun p hp => ?_⟩
    refine .inl ⟨_, updM_same, rfl, rfl, ?_⟩
    have x1 := Ext.new (o := .lst [.str "not", .str "neg"]) hp
    have h1 := h _ x1
    by_cases hu : o = .not ∨ o = .neg
    · rcases hu with rfl | rfl
      · walk_at "if"; exact h1
      · walk_at "if"; exact h1
    by_cases hk : o = .pick
    · subst hk
      walk_at "if"
      walk_at "if"
      exact h1
    · have h2 : o.ar = 2 := by cases o <;> first | rfl | (exfalso; simp at hu; done) | (exfalso; simp at hk; done)
      refine ⟨fun hc => ?_, fun _ => ?_⟩
      · exfalso; cases o <;> first | (exact absurd hc (by decide)) | (simp at hu; done)
      refine ⟨fun hc => ?_, fun _ => ?_⟩
      · exfalso; cases o <;> first | (exact absurd hc (by decide)) | (simp at hk; done)
      refine ⟨by decide, fun p2 hp2 => ?_⟩
      refine .inl ⟨_, updM_same, rfl, rfl, ?_⟩
      have h3 := h _ (x1.trans (Ext.new (o := .lst [.str "and", .str "or", .str "xor", .str "add", .str "sub", .str "mul", .str "shl", .str "shr", .str "eq", .str "lt", .str "slt"]) hp2))
      rw [h2] at h3
      refine ⟨fun _ => h3, fun hc => ?_⟩
      exfalso; cases o <;> first | (exact absurd hc (by decide)) | (simp at hu; done) | (simp at hk; done)
  | none =>
    have ha : arS s = 0 := by unfold arS; rw [e]
    rw [ha] at h
    have no := notop e
    refine ⟨by decide, fun p hp => ?_⟩
    refine in_list (l := ["not", "neg"]) s _ p updM_same false _ ?_
    have n1 : decide (s ∈ (["not", "neg"] : List Str)) = false := decide_eq_false (by simp only [List.mem_cons, List.not_mem_nil, or_false]; intro z; rcases z with z | z <;> first | exact no .not z | exact no .neg z)
    rw [n1]
    walk_at "if"
    refine ⟨fun hc => absurd (of_decide_eq_true hc) (no .pick), fun _ => ?_⟩
    refine ⟨by decide, fun p2 hp2 => ?_⟩
    refine in_list (l := ["and", "or", "xor", "add", "sub", "mul", "shl", "shr", "eq", "lt", "slt"]) s _ p2 updM_same false _ ?_
    have n2 : decide (s ∈ (["and", "or", "xor", "add", "sub", "mul", "shl", "shr", "eq", "lt", "slt"] : List Str)) = false := decide_eq_false (by
      simp only [List.mem_cons, List.not_mem_nil, or_false]
      intro z
      rcases z with z | z | z | z | z | z | z | z | z | z | z
      · exact no .and z
      · exact no .or z
      · exact no .xor z
      · exact no .add z
      · exact no .sub z
      · exact no .mul z
      · exact no .shl z
      · exact no .shr z
      · exact no .eq z
      · exact no .lt z
      · exact no .slt z)
    rw [n2]
    walk_at "if"
    exact h _ ((Ext.new hp).trans (Ext.new hp2))
def sp_size2 (n : Nat) : DSp := fun ds M Q _ => ∃ d, ds = [d] ∧ tree d = true ∧ depthD d < n ∧ Q (.int (sizeD d)) M
theorem r__law_size_v2 (n : Nat) : ∀ ds M Q E, sp_size2 (n + 1) ds M Q E → b__law_size_v2 (sp_size2 n) (En Q) (startD 3 ds) M := by
  rintro ds M Q E ⟨d, rfl, ht, hn, h⟩
  cases d with
  | int i =>
    walk_at "if"
    exact h
  | str s =>
    walk_at "if"
    exact h
  | tup ds =>
    walk_at "if"
    refine ⟨fun i E M' => M' = M ∧ ∃ x : Option D, E = [some (.tup ds), some (.int (1 + (sizeDs ((ds.drop 1).take i) : Nat))), x], ⟨rfl, none, rfl⟩, fun _ _ _ _ => trivial, ?_, ?_⟩
    · rintro i E M' d hd ⟨rfl, x, rfl⟩
      rw [cut1] at hd
      have hm := mem_at hd
      have h1 := depthD_mem hm
      rw [depthD_tup] at hn
      refine ⟨d, rfl, tree_tup ht d (drop_mem hm), by omega, rfl, some d, ?_⟩
      have e : (1 + (sizeDs ((ds.drop 1).take i) : Nat) : Int) + (sizeD d : Int) = 1 + (sizeDs ((ds.drop 1).take (i + 1)) : Nat) := by
        rw [take_snoc hd, sizeDs_snoc]; push_cast; omega
      show [some (D.tup ds), some (D.int ((1 + (sizeDs ((ds.drop 1).take i) : Nat) : Int) + (sizeD d : Int))), some d] = _
      rw [e]
    · rintro E M' ⟨rfl, x, rfl⟩
      refine qi h ?_
      rw [cut1, List.take_length, sizeD_tup]; push_cast; rfl
  | _ => simp [tree] at ht
end Ry

set_option Elab.async false
set_option linter.all false
set_option autoImplicit false
set_option maxRecDepth 100000
set_option maxHeartbeats 4000000
/-! readings for k86: the law's own shape -/
namespace Ry
open PySem PySem.Spec PyProof.Rows L2 DH Bd Rd
local macro_rules | `(tactic| walk_at "if") => `(tactic| first | (refine ⟨fun _ => ?_, fun hc => absurd hc (by decide)⟩) | (refine ⟨fun hc => absurd hc (by decide), fun _ => ?_⟩))
def sp_lshape (n : Nat) : DSp := fun ds M Q _ => ∃ (d : D) (q : Addr) (w k : Nat) (nms : List Str), ds = [d, .int w, .ref q, .int k] ∧ M q = some (.lst (nms.map D.str)) ∧ tree d = true ∧ w ≤ 1000 ∧ k < n ∧ RetV M Q (.bl (shapedD w nms k d))
theorem arS_some {s : Str} {o : Op} (e : opOf s = some o) : arS s = o.ar := by unfold arS; rw [e]
theorem arS_none {s : Str} (e : opOf s = none) : arS s = 0 := by unfold arS; rw [e]
theorem r__law_shape (n : Nat) : ∀ ds M Q E, sp_lshape (n + 1) ds M Q E → b__law_shape sp_arity2 (sp_lshape n) (En Q) (startD 6 ds) M := by
  rintro ds M Q E ⟨d, q, w, k, nms, rfl, hq, ht, hw, hk, h⟩
  have hpow : (1 : Int) * 2 ^ (w : Int).toNat = ((2 ^ w : Nat) : Int) := pow_cast w
  have hcp : CPow 1 (w : Int) := cpow w hw (by decide)
  have fal : shapedD w nms k d = false → ∀ M', Ext M M' → Q (.bl false) M' := fun e M' x => qb (h M' x) e.symm
  cases d with
  | int i =>
    have e : shapedD w nms k (.int i) = (decide (0 ≤ i) && decide (i < ((2 ^ w : Nat) : Int))) := by cases k <;> rfl
    walk_at "if"
    refine ⟨fun h0 => ?_, fun h0 => ?_⟩
    · have h0 : decide ((0 : Int) ≤ i) = true := h0
      refine ⟨hcp, ?_⟩
      refine qb (h M (Ext.refl M)) ?_
      show decide (i < 1 * 2 ^ (w : Int).toNat) = _
      rw [e, h0, hpow, Bool.true_and]
    · have h0 : decide ((0 : Int) ≤ i) = false := h0
      exact fal (by rw [e, h0]; rfl) M (Ext.refl M)
  | str s =>
    have e : shapedD w nms k (.str s) = decide (s ∈ nms) := by cases k <;> rfl
    walk_at "if"
    walk_at "if"
    refine in_list s M q hq false _ ?_
    exact qb (h M (Ext.refl M)) e.symm
  | tup ds =>
    walk_at "if"
    walk_at "if"
    cases k with
    | zero =>
      walk_at "if"
      walk_at "if"
      exact fal (by simp [shapedD]) M (Ext.refl M)
    | succ k =>
      refine ⟨fun hc => absurd (of_decide_eq_true hc) (by omega), fun _ => ?_⟩
      match ds, ht, h, fal with
      | [], ht, h, fal =>
        walk_at "if"
        walk_at "if"
        exact fal (by simp [shapedD]) M (Ext.refl M)
      | .int i :: t, ht, h, fal =>
        refine ⟨fun hc => absurd hc (by simp; omega), fun _ => ⟨_, at0, ?_⟩⟩
        walk_at "if"
        exact fal (by simp [shapedD]) M (Ext.refl M)
      | .tup u :: t, ht, h, fal =>
        refine ⟨fun hc => absurd hc (by simp; omega), fun _ => ⟨_, at0, ?_⟩⟩
        walk_at "if"
        exact fal (by simp [shapedD]) M (Ext.refl M)
      | .str s :: t, ht, h, fal =>
        have hsh : shapedD w nms (k + 1) (.tup (.str s :: t)) = (match opOf s with
          | some o => t.length == o.ar && t.all (shapedD w nms k)
          | none => false) := by
          simp only [shapedD] <;> (cases opOf s <;> rfl)
        refine ⟨fun hc => absurd hc (by simp; omega), fun _ => ⟨_, at0, ?_⟩⟩
        walk_at "if"
        refine ⟨_, at0, s, rfl, fun M1 e1 => ?_⟩
        cases e : opOf s with
        | none =>
          rw [arS_none e]
          walk_at "if"
          walk_at "if"
          exact fal (by rw [hsh, e]) M1 e1
        | some o =>
          have har := ar3 o
          rw [arS_some e]
          refine ⟨fun hc => absurd (of_decide_eq_true hc) (by omega), fun _ => ⟨_, at0, s, rfl, fun M2 e2 => ?_⟩⟩
          rw [arS_some e]
          have e12 := e1.trans e2
          refine ⟨fun hc => ?_, fun hc => ?_⟩
          · have hc : (!decide ((((.str s :: t : List D).length : Nat) : Int) = 1 + (o.ar : Int))) = true := hc
            have hne : ¬ t.length = o.ar := by
              intro z
              rw [List.length_cons, z] at hc
              simp at hc
              omega
            refine fal ?_ M2 e12
            rw [hsh, e]
            show (t.length == o.ar && t.all (shapedD w nms k)) = false
            rw [beq_false_of_ne hne, Bool.false_and]
          · have hc : (!decide ((((.str s :: t : List D).length : Nat) : Int) = 1 + (o.ar : Int))) = false := hc
            have heq : t.length = o.ar := by
              rw [List.length_cons] at hc
              simp at hc
              omega
            have hall : shapedD w nms (k + 1) (.tup (.str s :: t)) = t.all (shapedD w nms k) := by
              rw [hsh, e]
              show (t.length == o.ar && t.all (shapedD w nms k)) = _
              rw [heq, beq_self_eq_true, Bool.true_and]
            rw [hall] at h
            refine ⟨fun i E M' => Ext M M' ∧ ∃ x : Option D, E = [some (.tup (.str s :: t)), some (.int w), some (.ref q), some (.int ((k + 1 : Nat) : Int)), some (.bl ((t.take i).all (shapedD w nms k))), x], ⟨e12, none, rfl⟩, fun _ _ _ _ => trivial, ?_, ?_⟩
            · rintro i E M' d hd ⟨hx, x, rfl⟩
              rw [cut1] at hd
              have hd : t[i]? = some d := hd
              have st : (t.take (i + 1)).all (shapedD w nms k) = ((t.take i).all (shapedD w nms k) && shapedD w nms k d) := by
                rw [take_snoc hd, List.all_append]; simp
              refine ⟨fun hb => ⟨d, q, w, k, nms, ?_, hx _ _ hq, tree_tup ht d (List.mem_cons_of_mem _ (mem_at hd)), hw, by omega, fun M3 e3 => ⟨hx.trans e3, some d, ?_⟩⟩, fun hb => ⟨hx, some d, ?_⟩⟩
              · show [_, _, _, D.int (((k + 1 : Nat) : Int) - 1)] = _
                rw [show (((k + 1 : Nat) : Int) - 1) = (k : Int) by omega]
              · rw [st, hb, Bool.true_and]; rfl
              · rw [st, hb, Bool.false_and]; rfl
            · rintro E M' ⟨hx, x, rfl⟩
              refine qb (h M' hx) ?_
              rw [cut1]
              show (t.take t.length).all (shapedD w nms k) = _
              rw [List.take_length]
  | _ => simp [tree] at ht
def sp_lgood : DSp := fun ds M Q _ => ∃ (d : D) (q : Addr) (w : Nat) (nms : List Str), ds = [d, .int w, .ref q] ∧ M q = some (.lst (nms.map D.str)) ∧ tree d = true ∧ w ≤ 1000 ∧ RetV M Q (.bl (formD w nms 15 d))
end Ry

set_option Elab.async false
set_option linter.all false
set_option autoImplicit false
set_option maxRecDepth 100000
set_option maxHeartbeats 4000000
/-! readings for k86: the law's own names and goodness -/
namespace Ry
open PySem PySem.Spec PyProof.Rows L2 DH Bd Rd
local macro_rules | `(tactic| walk_at "if") => `(tactic| first | (refine ⟨fun _ => ?_, fun hc => absurd hc (by decide)⟩) | (refine ⟨fun hc => absurd hc (by decide), fun _ => ?_⟩))
theorem r__law_good : ∀ ds M Q E, sp_lgood ds M Q E → b__law_good (sp_lshape 7) (sp_size2 7) (En Q) (startD 3 ds) M := by
  rintro ds M Q E ⟨d, q, w, nms, rfl, hq, ht, hw, h⟩
  refine ⟨d, q, w, 6, nms, rfl, hq, ht, hw, by omega, fun M1 e1 => ⟨fun hb => ?_, fun hb => ?_⟩⟩
  · have hd := shaped_depth hb
    refine ⟨d, rfl, ht, by omega, ?_⟩
    refine qb (h M1 e1) ?_
    unfold formD
    rw [hb, Bool.true_and]
  · refine qb (h M1 e1) ?_
    unfold formD
    rw [hb, Bool.false_and]
def alnum : Str := "abcdefghijklmnopqrstuvwxyz0123456789"
theorem alnum_eq : alnum.cps.toList = lowers.cps.toList ++ digits.cps.toList := by decide +kernel
theorem alnum_in (c : Nat) : decide (c ∈ alnum.cps.toList) = (low c || dig c) := by
  rw [alnum_eq]
  unfold low dig
  rw [Bool.eq_iff_iff]; simp
def sp_lgood_name : DSp := fun ds M Q _ => ∃ s : Str, ds = [.str s] ∧ s.length ≤ 1000 ∧ RetV M Q (.bl (valN s))
theorem opS (s : Str) : isOpS s = decide (0 < arS s) := by
  unfold isOpS arS
  cases opOf s with
  | none => rfl
  | some o => have := (ar3 o).2; simp; omega
theorem r__law_good_name : ∀ ds M Q E, sp_lgood_name ds M Q E → b__law_good_name sp_arity2 (En Q) (startD 2 ds) M := by
  rintro ds M Q E ⟨s, rfl, hl, h⟩
  have e1 := str_len s
  have hl2 := small_line hl
  have fal : valN s = false → ∀ M', Ext M M' → Q (.bl false) M' := fun e M' x => qb (h M' x) e.symm
  have vn : valN s = (nameL s.cps.toList && !isOpS s) := rfl
  cases e : s.cps.toList with
  | nil =>
    rw [e, List.length_nil] at e1
    have e0 : (s.length : Int) = 0 := by omega
    refine ⟨hl2, fun h1 => ?_, fun h1 => ?_⟩
    · have h1 := of_decide_eq_true h1
      omega
    · walk_at "if"
      walk_at "if"
      exact fal (by rw [vn, e]; rfl) M (Ext.refl M)
  | cons c r =>
    rw [e, List.length_cons] at e1
    refine ⟨hl2, fun h1 => ⟨fun h2 => ?_, fun h2 => ?_⟩, fun h1 => absurd (of_decide_eq_false h1) (by omega)⟩
    · have h2 : decide ((s.length : Int) ≤ 6) = false := by simpa using h2
      have h2 := of_decide_eq_false h2
      walk_at "if"
      refine fal ?_ M (Ext.refl M)
      rw [vn, e]
      simp only [nameL]
      rw [decide_eq_false (by omega)]; rfl
    have h2 : decide ((s.length : Int) ≤ 6) = true := by simpa using h2
    have h2 := of_decide_eq_true h2
    have hr : decide (r.length ≤ 5) = true := decide_eq_true (by omega)
    refine ⟨hl2, c, by rw [e]; exact at0, c, rfl, fun h3 => ?_, fun h3 => ?_⟩
    · walk_at "if"
      have h3 : low c = false := by simpa [low, lowers] using h3
      refine fal ?_ M (Ext.refl M)
      rw [vn, e]
      simp only [nameL, h3, Bool.and_false, Bool.false_and]
    have h3 : low c = true := by simpa [low, lowers] using h3
    refine ⟨s, rfl, fun M1 x1 => ⟨fun h4 => ?_, fun h4 => ?_⟩⟩
    · have h4 : decide (0 < arS s) = true := by
        have h4 := of_decide_eq_true h4
        exact decide_eq_true (by omega)
      refine fal ?_ M1 x1
      rw [vn, opS, h4]; simp
    have h4 : isOpS s = false := by
      have h4 := of_decide_eq_false h4
      rw [opS]
      exact decide_eq_false (by omega)
    refine ⟨fun i E M' => M' = M1 ∧ (∃ x, E = [some (.str s), x]) ∧ ((s.cps.toList.take i).all fun x => low x || dig x) = true, ⟨rfl, ⟨none, rfl⟩, rfl⟩, fun _ _ _ _ => trivial, ?_, ?_⟩
    · rintro i E M' d hd ⟨rfl, ⟨x, rfl⟩, ha⟩
      obtain ⟨c', hc, rfl⟩ := strD_at hd
      refine ⟨c', rfl, fun h5 => ?_, fun h5 => ⟨rfl, ⟨_, rfl⟩, ?_⟩⟩
      · have h5 : (!decide (c' ∈ alnum.cps.toList)) = true := h5
        rw [alnum_in] at h5
        have h5 : (low c' || dig c') = false := by simpa using h5
        refine fal ?_ M' x1
        rw [vn, e]
        rw [e] at hc
        simp only [nameL, hr, h3, Bool.true_and]
        cases i with
        | zero =>
          have : c = c' := by simpa using hc
          subst this
          rw [h3] at h5; cases h5
        | succ i =>
          have hc : r[i]? = some c' := by simpa using hc
          have : (r.all fun x => low x || dig x) = false := by
            rw [List.all_eq_false]
            exact ⟨c', mem_at hc, by simp [h5]⟩
          rw [this, Bool.false_and]
      · have h5 : (!decide (c' ∈ alnum.cps.toList)) = false := h5
        rw [alnum_in] at h5
        have h5 : (low c' || dig c') = true := by
          cases q : (low c' || dig c') with
          | true => rfl
          | false => rw [q] at h5; cases h5
        rw [take_snoc hc, List.all_append, ha]
        simpa using h5
    · rintro E M' ⟨rfl, ⟨x, rfl⟩, ha⟩
      rw [strD_len, List.take_length, e] at ha
      rw [List.all_cons] at ha
      refine qb (h M' x1) ?_
      rw [vn, e, h4]
      simp only [nameL, hr, h3, Bool.true_and, (Bool.and_eq_true_iff.mp ha).2]
      rfl
end Ry

set_option Elab.async false
set_option linter.all false
set_option autoImplicit false
set_option maxRecDepth 100000
set_option maxHeartbeats 4000000
/-! readings for k86: the law's own first bad line -/
namespace Ry
open PySem PySem.Spec PyProof.Rows L2 DH Bd Rd
local macro_rules | `(tactic| walk_at "if") => `(tactic| first | (refine ⟨fun _ => ?_, fun hc => absurd hc (by decide)⟩) | (refine ⟨fun hc => absurd hc (by decide), fun _ => ?_⟩))
def BefOk (t : TY) (i : Nat) (b : Int) : Prop := (i = 0 → b = -1) ∧ ∀ j q, i = j + 1 → t.outs[j]? = some q → b = q.1 ∧ 0 ≤ b
theorem bef_eq {t : TY} {i : Nat} {b r : Int} (hi : i < t.outs.length) (h : BefOk t i b) : (decide (b < r) && decide (r ≤ 3)) = ((decide (0 ≤ r) && decide (r ≤ 3)) && !lowO t i r) := by
  cases i with
  | zero =>
    have hb := h.1 rfl
    subst hb
    simp only [lowO]
    rw [Bool.eq_iff_iff]; simp; omega
  | succ j =>
    have hat := getE (show j < t.outs.length by omega)
    generalize t.outs[j] = q at hat
    obtain ⟨rfl, h0⟩ := h.2 j q rfl hat
    simp only [lowO, hat]
    rw [Bool.eq_iff_iff]; simp; omega
def sp_ldue : DSp := fun ds M Q _ => ∃ (q1 q2 q3 q4 : Addr) (t : TY), ds = [.int t.w, .ref q1, .ref q2, .ref q3, .ref q4] ∧ M q1 = some (.lst (t.ins.map .str)) ∧ M q2 = some (.lst t.needs) ∧ M q3 = some (.lst (letD t.lets)) ∧ M q4 = some (.lst (outI t.outs)) ∧ t.Fit ∧ RetV M Q (.int (t.due : Nat))
theorem r__law_due : ∀ ds M Q E, sp_ldue ds M Q E → b__law_due sp_lgood_name sp_lgood (En Q) (startD 11 ds) M := by
  rintro ds M Q E ⟨q1, q2, q3, q4, t, rfl, m1, m2, m3, m4, ok, h⟩
  have ni := ok.ni
  have nn := ok.nn
  have nl := ok.nl
  have no := ok.no
  have w9 := ok.w9
  have g1 : (t.ins.map D.str).length = t.ins.length := List.length_map _
  have g2 := letD_len t.lets
  have g3 := outI_len t.outs
  have early : ¬ (1 ≤ t.w ∧ t.w ≤ 4) → Q (.int 1) M := fun hn => by
    have := h M (Ext.refl _)
    unfold TY.due at this
    rw [if_neg hn] at this
    exact this
  refine ⟨fun w1 => ⟨fun hc => ?_, fun hc => ?_⟩, fun w1 => ?_⟩
  · exact early fun ⟨_, h4⟩ => absurd hc (by simp; omega)
  rotate_left
  · walk_at "if"
    exact early fun ⟨h1, _⟩ => absurd (of_decide_eq_false w1) (by omega)
  have w1 := of_decide_eq_true w1
  have w4 : t.w ≤ 4 := by
    have : (!decide ((t.w : Int) ≤ 4)) = false := hc
    have : decide ((t.w : Int) ≤ 4) = true := by simpa using this
    have := of_decide_eq_true this
    omega
  have hdue : t.due = t.d1 := by
    unfold TY.due
    rw [if_pos ⟨by omega, w4⟩]
  rw [hdue] at h
  refine ⟨by show 0 ≤ sizeLine; decide, fun kn hkn => ?_⟩
  have x0 : Ext M (updM M kn (.lst [])) := Ext.new hkn
  have k0 : updM M kn (.lst []) kn = some (.lst []) := updM_same
  generalize updM M kn (.lst []) = M0 at x0 k0 ⊢
  refine .inl ⟨_, x0 _ _ m1, by omega, by omega, ?_⟩
  refine ⟨fun i E M' => Ext M M' ∧ M' kn = some (.lst ((t.ins.take i).map .str)) ∧ t.d1 = scanF (badI t) 1 t.d2 (t.ins.length - i) i ∧ ∃ l : Int, ∃ x, l = ((1 + i : Nat) : Int) ∧ E = [some (.int t.w), some (.ref q1), some (.ref q2), some (.ref q3), some (.ref q4), some (.int l), some (.ref kn), x, none, none, none], ⟨x0, k0, rfl, 1, none, rfl, rfl⟩, fun _ _ _ _ => trivial, ?_, ?_⟩
  · rintro i E M' d hd ⟨hx, hk, hs, l, x, hl, rfl⟩
    obtain ⟨hi, rfl⟩ := rng_at hd
    have hi : i < t.ins.length := by have : i < (((t.ins.map D.str).length : Nat) : Int).toNat := hi; omega
    rw [Int.zero_add]
    have hat := getE hi
    have hsl := ok.si _ (List.getElem_mem hi)
    generalize t.ins[i] = s at hat hsl
    have hiN : ((t.ins.map D.str))[i]? = some (.str s) := by rw [List.getElem?_map, hat]; rfl
    have hbad : badI t i = ((!valN s || decide (s ∈ t.ins.take i)) || (decide (4 ≤ i) || decide (8 < t.w * (i + 1)))) := by simp only [badI, hat]
    have stop : badI t i = true → ∀ M2, Ext M M2 → Q (.int (l + 1)) M2 := fun hb M2 x2 => by
      refine qi (h M2 x2) ?_
      rw [hs, scan_hit hi hb, hl]; omega
    refine .inl ⟨_, _, _, hx _ _ m1, rfl, atI_nat hiN, s, rfl, hsl, fun M2 e2 => ?_⟩
    have hx2 := hx.trans e2
    refine ⟨fun hb => ?_, fun hb => ?_⟩
    · have hb : (!valN s) = true := hb
      walk_at "if"
      exact stop (by rw [hbad, hb]; rfl) M2 hx2
    have hb : (!valN s) = false := hb
    refine .inl ⟨_, _, .str s, hx2 _ _ m1, rfl, atI_nat hiN, .inl ⟨_, e2 _ _ hk, rfl, flat_strs _, ?_⟩⟩
    rw [inD_strs]
    refine ⟨fun hc => ?_, fun hc => ?_⟩
    · have hc : decide (s ∈ t.ins.take i) = true := hc
      walk_at "if"
      exact stop (by rw [hbad, hc, Bool.or_true]; rfl) M2 hx2
    have hc : decide (s ∈ t.ins.take i) = false := hc
    have e4 : decide ((4 : Int) ≤ (i : Int)) = decide (4 ≤ i) := by rw [Bool.eq_iff_iff]; simp; omega
    refine ⟨fun hd => ?_, fun hd => ?_⟩
    · have hd : decide ((4 : Int) ≤ (i : Int)) = true := hd
      walk_at "if"
      exact stop (by rw [hbad, ← e4, hd]; simp) M2 hx2
    have hd : decide ((4 : Int) ≤ (i : Int)) = false := hd
    have e8 : decide ((8 : Int) < (t.w : Int) * ((i : Int) + 1)) = decide (8 < t.w * (i + 1)) := by
      rw [Bool.eq_iff_iff, decide_eq_true_eq, decide_eq_true_eq]
      have h3 : ((t.w * (i + 1) : Nat) : Int) = (t.w : Int) * ((i : Int) + 1) := by push_cast; rfl
      rw [← h3]; omega
    refine ⟨.inl ⟨by omega, by omega⟩, fun he => ?_, fun he => ?_⟩
    · have he : decide ((8 : Int) < (t.w : Int) * ((i : Int) + 1)) = true := he
      exact stop (by rw [hbad, ← e8, he]; simp) M2 hx2
    have he : decide ((8 : Int) < (t.w : Int) * ((i : Int) + 1)) = false := he
    have good : badI t i = false := by rw [hbad, hb, hc, ← e4, hd, ← e8, he]; rfl
    refine ⟨⟨_, e2 _ _ hk⟩, .inl ⟨_, _, _, hx2 _ _ m1, rfl, atI_nat hiN, _, e2 _ _ hk, by rw [List.length_map, List.length_take]; exact tolist (by omega), hx2.mut hkn, ?_, by rw [hs]; exact scan_go hi good, _, _, by rw [hl]; omega, rfl⟩⟩
    rw [updM_same, take_snoc hat, List.map_append]; rfl
  rintro E M1 ⟨x1, k1, hs, l, x, hl, rfl⟩
  have e0 : (rngD 0 (((t.ins.map D.str).length : Nat) : Int).toNat).length = t.ins.length := by rw [rng_len]; omega
  have k1 : M1 kn = some (.lst ((t.ins.take (rngD 0 (((t.ins.map D.str).length : Nat) : Int).toNat).length).map .str)) := k1
  have hs : t.d1 = scanF (badI t) 1 t.d2 (t.ins.length - (rngD 0 (((t.ins.map D.str).length : Nat) : Int).toNat).length) (rngD 0 (((t.ins.map D.str).length : Nat) : Int).toNat).length := hs
  have hl : l = ((1 + (rngD 0 (((t.ins.map D.str).length : Nat) : Int).toNat).length : Nat) : Int) := hl
  rw [e0] at hs hl k1
  rw [List.take_length] at k1
  rw [scan_end] at hs
  rw [hs] at h
  refine .inl ⟨_, x1 _ _ m2, by omega, by omega, ?_⟩
  refine ⟨fun i E M' => Ext M1 M' ∧ t.d2 = scanF (badN t) t.b1 t.d3 (t.needs.length - i) i ∧ ∃ l : Int, ∃ x, l = ((t.b1 + i : Nat) : Int) ∧ E = [some (.int t.w), some (.ref q1), some (.ref q2), some (.ref q3), some (.ref q4), some (.int l), some (.ref kn), x, none, none, none], ⟨Ext.refl _, rfl, l, x, by rw [hl]; rfl, rfl⟩, fun _ _ _ _ => trivial, ?_, ?_⟩
  · rintro i E M' d hd ⟨hx, hs, l, x, hl, rfl⟩
    obtain ⟨hi, rfl⟩ := rng_at hd
    have hi : i < t.needs.length := by have : i < ((t.needs.length : Nat) : Int).toNat := hi; omega
    rw [Int.zero_add]
    have hat := getE hi
    have hf := ok.fn _ (List.getElem_mem hi)
    generalize t.needs[i] = d at hat hf
    have hbad : badN t i = (decide (2 ≤ i) || !formD t.w t.ins 15 d) := by simp only [badN, hat]
    have e2 : decide ((2 : Int) ≤ (i : Int)) = decide (2 ≤ i) := by rw [Bool.eq_iff_iff]; simp; omega
    have stop : badN t i = true → ∀ M2, Ext M1 M2 → Q (.int (l + 1)) M2 := fun hb M2 x2 => by
      refine qi (h M2 (x1.trans x2)) ?_
      rw [hs, scan_hit hi hb, hl]; omega
    refine ⟨fun hb => ?_, fun hb => ?_⟩
    · have hb : decide ((2 : Int) ≤ (i : Int)) = true := hb
      walk_at "if"
      exact stop (by rw [hbad, ← e2, hb]; rfl) M' hx
    have hb : decide ((2 : Int) ≤ (i : Int)) = false := hb
    refine .inl ⟨_, _, d, hx _ _ (x1 _ _ m2), rfl, atI_nat hat, d, kn, t.w, t.ins, rfl, hx _ _ k1, hf, by omega, fun M2 x2 => ⟨fun hc => ?_, fun hc => ?_⟩⟩
    · have hc : (!formD t.w t.ins 15 d) = true := hc
      exact stop (by rw [hbad, hc, Bool.or_true]) M2 (hx.trans x2)
    · have hc : (!formD t.w t.ins 15 d) = false := hc
      exact ⟨hx.trans x2, by rw [hs]; exact scan_go hi (by rw [hbad, ← e2, hb, hc]; rfl), _, _, by rw [hl]; omega, rfl⟩
  rintro E M2 ⟨x2, hs, l, x, hl, rfl⟩
  have e0 : (rngD 0 ((t.needs.length : Nat) : Int).toNat).length = t.needs.length := by rw [rng_len]; omega
  have hs : t.d2 = scanF (badN t) t.b1 t.d3 (t.needs.length - (rngD 0 ((t.needs.length : Nat) : Int).toNat).length) (rngD 0 ((t.needs.length : Nat) : Int).toNat).length := hs
  have hl : l = ((t.b1 + (rngD 0 ((t.needs.length : Nat) : Int).toNat).length : Nat) : Int) := hl
  rw [e0] at hs hl
  rw [scan_end] at hs
  rw [hs] at h
  have x12 := x1.trans x2
  have k2 := x2 _ _ k1
  refine .inl ⟨_, x12 _ _ m3, by omega, by omega, ?_⟩
  refine ⟨fun i E M' => Ext M M' ∧ M' kn = some (.lst ((t.known i).map .str)) ∧ t.d3 = scanF (badL t) t.b2 t.d4 (t.lets.length - i) i ∧ ∃ l : Int, ∃ x, l = ((t.b2 + i : Nat) : Int) ∧ E = [some (.int t.w), some (.ref q1), some (.ref q2), some (.ref q3), some (.ref q4), some (.int l), some (.ref kn), x, none, none, none], ⟨x12, by unfold TY.known; rw [List.take_zero, List.map_nil, List.append_nil]; exact k2, rfl, l, x, by rw [hl]; rfl, rfl⟩, fun _ _ _ _ => trivial, ?_, ?_⟩
  · rintro i E M' d hd ⟨hx, hk, hs, l, x, hl, rfl⟩
    obtain ⟨hi, rfl⟩ := rng_at hd
    have hi : i < t.lets.length := by have : i < (((letD t.lets).length : Nat) : Int).toNat := hi; omega
    rw [Int.zero_add]
    have hat := getE hi
    obtain ⟨hp1, hp2⟩ := ok.fl _ (List.getElem_mem hi)
    generalize t.lets[i] = p at hat hp1 hp2
    have hD := letD_at hat
    have hbad : badL t i = ((!valN p.1 || (decide (p.1 ∈ t.known i) || decide (60 ≤ i))) || !formD t.w (t.known i) 15 p.2) := by simp only [badL, hat]
    have stop : badL t i = true → ∀ M2, Ext M M2 → Q (.int (l + 1)) M2 := fun hb M2 x2 => by
      refine qi (h M2 x2) ?_
      rw [hs, scan_hit hi hb, hl]; omega
    have e60 : decide ((60 : Int) ≤ (i : Int)) = decide (60 ≤ i) := by rw [Bool.eq_iff_iff]; simp; omega
    refine ⟨fun hd => ?_, fun hd => ?_⟩
    · have hd : decide ((60 : Int) ≤ (i : Int)) = true := hd
      walk_at "if"
      exact stop (by rw [hbad, ← e60, hd]; simp) M' hx
    have hd : decide ((60 : Int) ≤ (i : Int)) = false := hd
    refine .inl ⟨_, _, .tup [.str p.1, p.2], hx _ _ m3, rfl, atI_nat hD, _, at0, p.1, rfl, hp1, fun M3 x3 => ?_⟩
    have hx3 := hx.trans x3
    refine ⟨fun hb => ?_, fun hb => ?_⟩
    · have hb : (!valN p.1) = true := hb
      walk_at "if"
      exact stop (by rw [hbad, hb]; rfl) M3 hx3
    have hb : (!valN p.1) = false := hb
    refine .inl ⟨_, _, .tup [.str p.1, p.2], hx3 _ _ m3, rfl, atI_nat hD, .str p.1, at0, .inl ⟨_, x3 _ _ hk, rfl, flat_strs _, ?_⟩⟩
    rw [inD_strs]
    refine ⟨fun hc => ?_, fun hc => ?_⟩
    · have hc : decide (p.1 ∈ t.known i) = true := hc
      exact stop (by rw [hbad, hc]; simp) M3 hx3
    have hc : decide (p.1 ∈ t.known i) = false := hc
    refine .inl ⟨_, _, .tup [.str p.1, p.2], hx3 _ _ m3, rfl, atI_nat hD, p.2, rfl, p.2, kn, t.w, t.known i, rfl, x3 _ _ hk, hp2, by omega, fun M4 x4 => ⟨fun he => ?_, fun he => ?_⟩⟩
    · have he : (!formD t.w (t.known i) 15 p.2) = true := he
      exact stop (by rw [hbad, he]; simp) M4 (hx3.trans x4)
    have he : (!formD t.w (t.known i) 15 p.2) = false := he
    have good : badL t i = false := by rw [hbad, hb, hc, ← e60, hd, he]; rfl
    refine ⟨⟨_, x4 _ _ (x3 _ _ hk)⟩, .inl ⟨_, _, .tup [.str p.1, p.2], (hx3.trans x4) _ _ m3, rfl, atI_nat hD, .str p.1, at0, _, x4 _ _ (x3 _ _ hk), by unfold TY.known; rw [List.length_map, List.length_append, List.length_map, List.length_take]; exact tolist (by omega), (hx3.trans x4).mut hkn, ?_, by rw [hs]; exact scan_go hi good, _, _, by rw [hl]; omega, rfl⟩⟩
    rw [updM_same]
    unfold TY.known
    rw [take_snoc hat]
    simp
  rintro E M3 ⟨x3, k3, hs, l, x, hl, rfl⟩
  have e0 : (rngD 0 (((letD t.lets).length : Nat) : Int).toNat).length = t.lets.length := by rw [rng_len]; omega
  have k3 : M3 kn = some (.lst ((t.known (rngD 0 (((letD t.lets).length : Nat) : Int).toNat).length).map .str)) := k3
  have hs : t.d3 = scanF (badL t) t.b2 t.d4 (t.lets.length - (rngD 0 (((letD t.lets).length : Nat) : Int).toNat).length) (rngD 0 (((letD t.lets).length : Nat) : Int).toNat).length := hs
  have hl : l = ((t.b2 + (rngD 0 (((letD t.lets).length : Nat) : Int).toNat).length : Nat) : Int) := hl
  rw [e0] at hs hl k3
  rw [scan_end] at hs
  rw [hs] at h
  refine ⟨_, x3 _ _ m4, ?_⟩
  refine ⟨fun i E M' => Ext M3 M' ∧ t.d4 = scanF (badO t) t.b3 0 (t.outs.length - i) i ∧ ∃ l b : Int, ∃ x y z, l = ((t.b3 + i : Nat) : Int) ∧ BefOk t i b ∧ E = [some (.int t.w), some (.ref q1), some (.ref q2), some (.ref q3), some (.ref q4), some (.int l), some (.ref kn), x, some (.int b), y, z], ⟨Ext.refl _, rfl, l, -1, x, none, none, by rw [hl]; rfl, ⟨fun _ => rfl, fun j q e => by cases e⟩, rfl⟩, fun i E M' ⟨e, _⟩ => e _ _ (x3 _ _ m4), ?_, ?_⟩
  · rintro i E M' d hd ⟨hx, hs, l, b, x, y, z, hl, hbef, rfl⟩
    have hi : i < t.outs.length := by have := lt_at hd; rw [outI_len] at this; exact this
    have hat := getE hi
    have hp2 := ok.fo _ (List.getElem_mem hi)
    generalize t.outs[i] = p at hat hp2
    rw [outI_at hat] at hd
    cases hd
    have hbe := bef_eq (r := p.1) hi hbef
    have hbad : badO t i = ((!(decide (0 ≤ p.1) && decide (p.1 ≤ 3)) || lowO t i p.1) || !formD t.w (t.known t.lets.length) 15 p.2) := by simp only [badO, hat]
    have stop : badO t i = true → ∀ M2, Ext M3 M2 → Q (.int (l + 1)) M2 := fun hb M2 x2 => by
      refine qi (h M2 (x3.trans x2)) ?_
      rw [hs, scan_hit hi hb, hl]; omega
    have bad1 : (decide (b < p.1) && decide (p.1 ≤ 3)) = false → badO t i = true := fun g => by
      rw [hbe] at g
      rw [hbad]
      cases u : (decide (0 ≤ p.1) && decide (p.1 ≤ 3)) with
      | false => rfl
      | true =>
        rw [u, Bool.true_and] at g
        have : lowO t i p.1 = true := by simpa using g
        rw [this]; rfl
    refine ⟨rfl, fun c1 => ⟨fun c2 => ?_, fun c2 => ?_⟩, fun c1 => ?_⟩
    · have c2 : decide (p.1 ≤ 3) = false := by simpa using c2
      walk_at "if"
      exact stop (bad1 (by rw [c2, Bool.and_false])) M' hx
    · have c1 : decide (b < p.1) = true := c1
      have c2 : decide (p.1 ≤ 3) = true := by simpa using c2
      have both : ((decide (0 ≤ p.1) && decide (p.1 ≤ 3)) && !lowO t i p.1) = true := by rw [← hbe, c1, c2]; rfl
      obtain ⟨v1, v2⟩ := Bool.and_eq_true_iff.mp both
      have v2 : lowO t i p.1 = false := by simpa using v2
      refine ⟨p.2, kn, t.w, t.known t.lets.length, rfl, hx _ _ k3, hp2, by omega, fun M4 x4 => ⟨fun he => ?_, fun he => ?_⟩⟩
      · have he : (!formD t.w (t.known t.lets.length) 15 p.2) = true := he
        exact stop (by rw [hbad, he]; simp) M4 (hx.trans x4)
      · have he : (!formD t.w (t.known t.lets.length) 15 p.2) = false := he
        refine ⟨hx.trans x4, by rw [hs]; exact scan_go hi (by rw [hbad, v1, v2, he]; rfl), _, p.1, _, _, _, by rw [hl]; omega, ⟨(fun e => by cases e), fun j q e hq => ?_⟩, rfl⟩
        cases e
        rw [hat] at hq
        cases hq
        obtain ⟨v3, _⟩ := Bool.and_eq_true_iff.mp v1
        exact ⟨rfl, of_decide_eq_true v3⟩
    · have c1 : decide (b < p.1) = false := c1
      walk_at "if"
      walk_at "if"
      exact stop (bad1 (by rw [c1]; rfl)) M' hx
  rintro E M4 ⟨x4, hs, l, b, x, y, z, hl, hbef, rfl⟩
  rw [outI_len, scan_end] at hs
  rw [hs] at h
  exact h M4 (x3.trans x4)
end Ry

set_option Elab.async false
set_option linter.all false
set_option autoImplicit false
set_option maxRecDepth 100000
set_option maxHeartbeats 4000000
/-! readings for k86: drawn formulas -/
namespace Ry
open PySem PySem.Spec PyProof.Rows L2 DH Bd Rd
local macro_rules | `(tactic| walk_at "if") => `(tactic| first | (refine ⟨fun _ => ?_, fun hc => absurd hc (by decide)⟩) | (refine ⟨fun hc => absurd hc (by decide), fun _ => ?_⟩))
/-- a tree that can be compared -/
structure FitD (n : Nat) (d : D) : Prop where
  tr : tree d = true
  ok : OkD n d
theorem fit_int (i : Int) (n : Nat) : FitD n (.int i) := ⟨by simp [tree], ok_int i n⟩
theorem fit_str {s : Str} (h : PyData.strOk s = true) (n : Nat) : FitD n (.str s) := ⟨by simp [tree], ok_str h n⟩
theorem trees_of : ∀ {l : List D}, (∀ d ∈ l, tree d = true) → trees l = true
  | [], _ => by simp [trees]
  | a :: l, h => by simp only [trees, h a (by simp), trees_of fun d hd => h d (List.mem_cons_of_mem _ hd), Bool.and_self]
theorem fit_tup {n : Nat} {ds : List D} (h : ∀ d ∈ ds, FitD n d) : FitD (n + 1) (.tup ds) := ⟨by simp only [tree]; exact trees_of fun d hd => (h d hd).tr, ok_tup fun d hd => (h d hd).ok⟩
theorem FitD.mono {n m : Nat} {d : D} (h : FitD n d) (l : n ≤ m) : FitD m d := ⟨h.tr, h.ok.mono l⟩
theorem op_strOk (o : Op) : PyData.strOk o.nm = true := by cases o <;> decide +kernel
def sp_formula2 (n : Nat) : DSp := fun ds M Q _ => ∃ (p c q : Addr) (w k : Nat) (nms : List Str), ds = [.ref p, .ref c, .ref q, .int w, .int k] ∧ k < n ∧ w ≤ 9 ∧ Dw p c M ∧ q ≠ c ∧ M q = some (.lst (nms.map .str)) ∧ (∀ s ∈ nms, PyData.strOk s = true) ∧ ∀ d, FitD (k + 1) d → ∀ M', Dr c M M' → Q d M'
def lowZ (w : Nat) : Int := (if (4 : Int) < (if (1 : Int) > w then 1 else (w : Int)) then 4 else (if (1 : Int) > w then 1 else (w : Int)))
theorem r__law_formula_v2 (n : Nat) : ∀ ds M Q E, sp_formula2 (n + 1) ds M Q E → b__law_formula_v2 sp_take sp_arity2 (sp_formula2 n) (En Q) (startD 9 ds) M := by
  rintro ds M Q E ⟨p, c, q, w, k, nms, rfl, hk, h9, dw, hqc, hq, hso, h⟩
  refine ⟨by show 14 ≤ sizeLine; decide, fun pw hpw => ?_⟩
  have hwc := dw.cne hpw
  have d0 : Dr c M (updM M pw (.lst (ops.map fun o => D.str o.nm))) := .new hpw
  have hw : updM M pw (.lst (ops.map fun o => D.str o.nm)) pw = some (.lst (ops.map fun o => D.str o.nm)) := updM_same
  have leafI : ∀ r : Nat, ∀ M', Dr c M M' → Q (.int r) M' := fun r M' e => h _ (fit_int _ _) M' e
  have leafS : ∀ s ∈ nms, ∀ M', Dr c M M' → Q (.str s) M' := fun s hs M' e => h _ (fit_str (hso s hs) _) M' e
  have z0 : 0 ≤ lowZ w ∧ lowZ w ≤ 1000000 := by
    unfold lowZ
    split <;> split <;> omega
  have hpow : (1 : Int) * 2 ^ (lowZ w).toNat = ((2 ^ (lowZ w).toNat : Nat) : Int) := by rw [Int.one_mul]; norm_cast
  have hpp := Nat.two_pow_pos (lowZ w).toNat
  have low : ∀ M1, Dr c M M1 → oShl (.int 1) (.int (lowZ w)) M1 fun x M2 => sp_take [.ref p, .ref c, x] M2 Q E := fun M1 e => ⟨⟨z0.1, z0.2, by decide⟩, p, c, 2 ^ (lowZ w).toNat, by show [_, _, D.int (1 * 2 ^ (lowZ w).toNat)] = _; rw [hpow], hpp, dw.go e, fun r hr M2 e2 => leafI r M2 (e.trans e2)⟩
  have hlq : ∀ M1, Dr c M M1 → M1 q = some (.lst (nms.map .str)) := fun M1 e => e.ex _ _ hqc hq
  cases k with
  | zero =>
    walk_at "if"
    walk_at "if"
    refine .inl ⟨_, hlq _ d0, fun hb => ?_, fun hb => ⟨fun hc => absurd hc (by decide), fun _ => low _ d0⟩⟩
    refine ⟨p, c, 4, rfl, by decide, dw.go d0, fun r hr M2 d2 => ⟨fun hb2 => ?_, fun hb2 => low _ (d0.trans d2)⟩⟩
    have hl := of_decide_eq_true hb
    have d2 := d0.trans d2
    refine .inl ⟨_, hlq _ d2, p, c, _, rfl, by omega, dw.go d2, fun r hr M3 d3 => ?_⟩
    rw [List.length_map] at hr
    refine .inl ⟨_, _, .str nms[r], hlq _ (d2.trans d3), rfl, atI_nat (by simp [hr]), leafS _ (List.getElem_mem hr) _ (d2.trans d3)⟩
  | succ k =>
    refine ⟨fun hc => absurd (of_decide_eq_true hc) (by omega), fun _ => ?_⟩
    refine ⟨p, c, 3, rfl, by decide, dw.go d0, fun r hr M2 d2 => ⟨fun hb2 => ?_, fun hb2 => ?_⟩⟩
    · have d0 := d0.trans d2
      refine .inl ⟨_, hlq _ d0, fun hb => ?_, fun hb => ⟨fun hc => absurd hc (by decide), fun _ => low _ d0⟩⟩
      refine ⟨p, c, 4, rfl, by decide, dw.go d0, fun r hr M2 d2 => ⟨fun hb2 => ?_, fun hb2 => low _ (d0.trans d2)⟩⟩
      have hl := of_decide_eq_true hb
      have d2 := d0.trans d2
      refine .inl ⟨_, hlq _ d2, p, c, _, rfl, by omega, dw.go d2, fun r hr M3 d3 => ?_⟩
      rw [List.length_map] at hr
      refine .inl ⟨_, _, .str nms[r], hlq _ (d2.trans d3), rfl, atI_nat (by simp [hr]), leafS _ (List.getElem_mem hr) _ (d2.trans d3)⟩
    · have hwM2 := d2.ex _ _ hwc hw
      have d2 := d0.trans d2
      refine ⟨p, c, 14, rfl, by decide, dw.go d2, fun r hr M3 d3 => ?_⟩
      obtain ⟨o, ho⟩ := words_at ⟨r, hr⟩
      have hw3 := d3.ex _ _ hwc hwM2
      have d3 := d2.trans d3
      refine .inl ⟨_, _, .str o.nm, hw3, rfl, atI_nat (by simp [ho]), ?_⟩
      refine ⟨by show 1 ≤ sizeLine; decide, fun pp hpp => ?_⟩
      have hp0 := d3.back dw.cur hpp
      refine ⟨o.nm, rfl, fun M4 e4 => ?_⟩
      have h3 := ar3 o
      rw [arS_some (opOf_of o)]
      refine ⟨by omega, by omega, ?_⟩
      have e4' := (d3.trans (.new hpp)).trans (.ofExt e4)
      refine ⟨fun i E M' => Dr c M M' ∧ (∃ t, M' pp = some (.lst (.str o.nm :: t)) ∧ t.length = i ∧ ∀ d ∈ t, FitD (k + 1) d) ∧ ∃ x, E = [some (.ref p), some (.ref c), some (.ref q), some (.int w), some (.int ((k + 1 : Nat) : Int)), some (.ref pw), some (.str o.nm), some (.ref pp), x], ⟨e4', ⟨[], e4 _ _ updM_same, rfl, by simp⟩, none, rfl⟩, fun _ _ _ _ => trivial, ?_, ?_⟩
      · rintro i E M' d hd ⟨hx, ⟨t, ht, hl, hall⟩, x, rfl⟩
        obtain ⟨hi, rfl⟩ := rng_at hd
        have hi : i < o.ar := by have : i < (o.ar : Int).toNat := hi; omega
        refine ⟨⟨_, ht⟩, p, c, q, w, k, nms, ?_, by omega, h9, dw.go hx, hqc, hlq _ hx, hso, fun d hd1 M5 e5 => ?_⟩
        · show [_, _, _, _, D.int (((k + 1 : Nat) : Int) - 1)] = _
          rw [show (((k + 1 : Nat) : Int) - 1) = (k : Int) by omega]
        refine ⟨_, e5.ex _ _ (dw.cne hp0) ht, tolist (by simp; omega), (hx.trans e5).mut dw.cur hp0, ⟨t ++ [d], updM_same, by simp [hl], fun e he => ?_⟩, _, rfl⟩
        rcases List.mem_append.mp he with he | he
        · exact hall e he
        · cases List.mem_singleton.mp he; exact hd1
      · rintro E M' ⟨hx, ⟨t, ht, hl, hall⟩, x, rfl⟩
        refine ⟨_, ht, h _ (fit_tup fun d hd => ?_) _ hx⟩
        rcases List.mem_cons.mp hd with rfl | hd
        · exact fit_str (op_strOk o) _
        · exact hall d hd
end Ry

set_option Elab.async false
set_option linter.all false
set_option autoImplicit false
set_option maxRecDepth 100000
set_option maxHeartbeats 4000000
/-! readings for k86: drawn names -/
namespace Ry
open PySem PySem.Spec PyProof.Rows L2 DH Bd Rd
local macro_rules | `(tactic| walk_at "if") => `(tactic| first | (refine ⟨fun _ => ?_, fun hc => absurd hc (by decide)⟩) | (refine ⟨fun hc => absurd hc (by decide), fun _ => ?_⟩))
theorem log_small2 {k : Nat} (h : k ≤ 200) : ((k : Int).natAbs).log2 < 1920 := by
  have := Nat.log2_le_self k
  rw [Int.natAbs_natCast]; omega
def AN (s : Str) : Prop := ∀ ch ∈ s.cps.toList, ch < 1114112
theorem an_ok {s : Str} (h : AN s) : PyData.strOk s = true := by
  unfold PyData.strOk
  rw [← Array.all_toList, List.all_eq_true]
  intro ch hch
  exact decide_eq_true (h ch hch)
theorem an_app {a b : Str} (ha : AN a) (hb : AN b) : AN (a ++ b) := fun ch h => by
  rw [show (a ++ b).cps = a.cps ++ b.cps from rfl, Array.toList_append] at h
  rcases List.mem_append.mp h with h | h
  · exact ha ch h
  · exact hb ch h
theorem len_app (a b : Str) : (a ++ b).length = a.length + b.length := by
  rw [← str_len, ← str_len, ← str_len, show (a ++ b).cps = a.cps ++ b.cps from rfl, Array.toList_append, List.length_append]
theorem alnum_ok : ∀ ch ∈ alnum.cps.toList, ch < 1114112 := by decide +kernel
theorem lowers_ok : ∀ ch ∈ lowers.cps.toList, ch < 1114112 := by decide +kernel
theorem str_an : ∀ n : Fin 201, ∀ ch ∈ (((toString ((n.1 : Nat) : Int)) : String) : Str).cps.toList, ch < 1114112 := by decide +kernel
theorem cut_an {s : Str} (h : AN s) (lo hi : Option Int) : AN (cutS s lo hi) := fun ch hch => by
  unfold cutS at hch
  have hch : ch ∈ ((s.cps.toList.drop (HT.sIx s.length 0 lo)).take (HT.sIx s.length s.length hi - HT.sIx s.length 0 lo)) := by simpa using hch
  exact h ch (List.mem_of_mem_drop (List.mem_of_mem_take hch))
theorem cut_len (s : Str) (lo hi : Option Int) : (cutS s lo hi).length ≤ s.length := by
  rw [← str_len, ← str_len s]
  unfold cutS
  simp
  omega
def sp_name2 : DSp := fun ds M Q _ => ∃ (p c : Addr) (n : Nat) (b : Bool), ds = [.ref p, .ref c, .int n, .bl b] ∧ n ≤ 200 ∧ Dw p c M ∧ ∀ s : Str, s.length ≤ 20 → AN s → ∀ M', Dr c M M' → Q (.str s) M'
theorem r__law_name : ∀ ds M Q E, sp_name2 ds M Q E → b__law_name sp_take (En Q) (startD 7 ds) M := by
  rintro ds M Q E ⟨p, c, n, b, rfl, hn, dw, h⟩
  refine ⟨p, c, 26, rfl, by decide, dw, fun r hr M1 d1 => ?_⟩
  have hl : r < lowers.cps.toList.length := Nat.lt_of_lt_of_le hr (by decide)
  refine ⟨by decide, _, atI_nat (getE hl), ?_⟩
  refine ⟨p, c, 4, rfl, by decide, dw.go d1, fun r2 hr2 M2 d2 => ⟨by omega, by omega, ?_⟩⟩
  refine ⟨fun i E M' => Dr c M M' ∧ ∃ (s : Str) (x : Option D), s.length = i + 1 ∧ AN s ∧ E = [some (.ref p), some (.ref c), some (.int n), some (.bl b), some (.str lowers), some (.str s), x], ⟨d1.trans d2, ⟨#[lowers.cps.toList[r]]⟩, none, rfl, fun ch hch => ?_, rfl⟩, fun _ _ _ _ => trivial, ?_, ?_⟩
  · have : ch = lowers.cps.toList[r] := by simpa using hch
    rw [this]
    exact lowers_ok _ (List.getElem_mem hl)
  · rintro i E M' d hd ⟨hx, s, x, hs, ha, rfl⟩
    obtain ⟨hi, rfl⟩ := rng_at hd
    have hi : i < r2 := by have : i < (r2 : Int).toNat := hi; omega
    refine ⟨by decide, p, c, 36, rfl, by decide, dw.go hx, fun r3 hr3 M3 d3 => ?_⟩
    have hl3 : r3 < alnum.cps.toList.length := Nat.lt_of_lt_of_le hr3 (by decide)
    refine ⟨by decide, alnum.cps.toList[r3], ?_, ?_, hx.trans d3, _, _, ?_, an_app ha ?_, rfl⟩
    · exact atI_nat (getE hl3)
    · rw [hs]
      exact small_line (by show i + 1 + 1 ≤ _; omega)
    · rw [len_app, hs]; rfl
    · intro ch hch
      have : ch = alnum.cps.toList[r3] := by simpa using hch
      rw [this]
      exact alnum_ok _ (List.getElem_mem hl3)
  · rintro E M' ⟨hx, s, x, hs, ha, rfl⟩
    rw [rng_len] at hs
    have hs : s.length ≤ 5 := by have : s.length = (r2 : Int).toNat + 1 := hs; omega
    have hcl := cut_len s none (some 4)
    have hsl := str_short ⟨n, by omega⟩
    have hsl : (((toString ((n : Nat) : Int)) : String) : Str).length ≤ 10 := hsl
    cases b with
    | true =>
      walk_at "if"
      refine ⟨small_line (by omega), log_small2 hn, small_line (by omega), ?_⟩
      exact h _ (by rw [len_app]; omega) (an_app (cut_an ha _ _) (str_an ⟨n, by omega⟩)) _ hx
    | false =>
      walk_at "if"
      exact h s (by omega) ha _ hx
end Ry

set_option Elab.async false
set_option linter.all false
set_option autoImplicit false
set_option maxRecDepth 100000
set_option maxHeartbeats 4000000
/-! readings for k86: odd formulas -/
namespace Ry
open PySem PySem.Spec PyProof.Rows L2 DH Bd Rd
local macro_rules | `(tactic| walk_at "if") => `(tactic| first | (refine ⟨fun _ => ?_, fun hc => absurd hc (by decide)⟩) | (refine ⟨fun hc => absurd hc (by decide), fun _ => ?_⟩))
theorem f0 (n : Nat) : FitD (n + 1) (.tup []) := fit_tup fun d hd => by cases hd
theorem f1 {n : Nat} {a : D} (ha : FitD n a) : FitD (n + 1) (.tup [a]) := fit_tup fun d hd => by cases List.mem_singleton.mp hd; exact ha
theorem f2 {n : Nat} {a b : D} (ha : FitD n a) (hb : FitD n b) : FitD (n + 1) (.tup [a, b]) := fit_tup fun d hd => by
  simp only [List.mem_cons, List.not_mem_nil, or_false] at hd
  rcases hd with rfl | rfl
  · exact ha
  · exact hb
theorem f3 {n : Nat} {a b c : D} (ha : FitD n a) (hb : FitD n b) (hc : FitD n c) : FitD (n + 1) (.tup [a, b, c]) := fit_tup fun d hd => by
  simp only [List.mem_cons, List.not_mem_nil, or_false] at hd
  rcases hd with rfl | rfl | rfl
  · exact ha
  · exact hb
  · exact hc
theorem f4 {n : Nat} {a b c e : D} (ha : FitD n a) (hb : FitD n b) (hc : FitD n c) (he : FitD n e) : FitD (n + 1) (.tup [a, b, c, e]) := fit_tup fun d hd => by
  simp only [List.mem_cons, List.not_mem_nil, or_false] at hd
  rcases hd with rfl | rfl | rfl | rfl
  · exact ha
  · exact hb
  · exact hc
  · exact he
def wideD (L : D) : D := .tup [.str "pick", L, .tup [.str "xor", L, .int 0], L]
def odd1 (L : D) (x y : Int) : List D := [.tup [.str "and", .str "Q", L], .tup [.str "and", L, .str "add"], .tup [.str "mul", L, .int x], .tup [.str "mul", L, .int y], .int (-1)]
def odd2 (L : D) : List D := [.tup [.str "not", L, L], .tup [.str "add", L], .tup [.str "pick", L, L], .tup [], .tup [.str "nand", L, L], .tup [.int 1, L], wideD L]
def odd3 (L : D) : List D := [.tup [.str "sub", .tup [.str "neg"], L], .str "and", .tup [.str "lt", .str "", L]]
theorem fs {s : Str} (n : Nat) (h : PyData.strOk s = true := by decide +kernel) : FitD n (.str s) := fit_str h n
theorem odd_fit {L : D} (hL : FitD 1 L) (x y : Int) : ∀ d ∈ odd1 L x y ++ odd2 L ++ odd3 L, FitD 12 d := by
  intro d hd
  have l1 : FitD 11 L := hL.mono (by decide)
  have l0 : FitD 10 L := hL.mono (by decide)
  simp only [odd1, odd2, odd3, List.cons_append, List.nil_append, List.mem_cons, List.not_mem_nil, or_false] at hd
  rcases hd with rfl | rfl | rfl | rfl | rfl | rfl | rfl | rfl | rfl | rfl | rfl | rfl | rfl | rfl | rfl
  · exact f3 (fs _) (fs _) l1
  · exact f3 (fs _) l1 (fs _)
  · exact f3 (fs _) l1 (fit_int _ _)
  · exact f3 (fs _) l1 (fit_int _ _)
  · exact fit_int _ _
  · exact f3 (fs _) l1 l1
  · exact f2 (fs _) l1
  · exact f3 (fs _) l1 l1
  · exact f0 _
  · exact f3 (fs _) l1 l1
  · exact f2 (fit_int _ _) l1
  · exact f4 (fs _) l1 (f3 (fs _) l0 (fit_int _ _)) l1
  · exact f3 (fs _) (f1 (fs _)) l1
  · exact fs _
  · exact f3 (fs _) (fs _) l1
def b_odd_rest : DS := dSeq (dAsg (dVar 3) (.nm 4)) (dSeq (dFor (dRng1 (dCons (dOp oAdd (dC (.int 6)) (dOp oMod (dVar 0) (dC (.int 2)))) (dNil))) (.nm 5) (dAsg (dTup (dCons (dOp oIx (dLst (dCons (dC (.str "not")) (dCons (dC (.str "neg")) (dNil)))) (dOp oMod (dVar 5) (dC (.int 2)))) (dCons (dVar 4) (dNil)))) (.nm 4))) (dSeq (dAsg (dVar 3) (.nm 6)) (dSeq (dFor (dRng1 (dCons (dC (.int 4)) (dNil))) (.nm 5) (dAsg (dTup (dCons (dC (.str "add")) (dCons (dVar 6) (dCons (dVar 3) (dNil))))) (.nm 6))) (dSeq (dAsg (dTup (dCons (dC (.str "pick")) (dCons (dVar 3) (dCons (dTup (dCons (dC (.str "xor")) (dCons (dVar 3) (dCons (dC (.int 0)) (dNil))))) (dCons (dVar 3) (dNil)))))) (.nm 7)) (dSeq (dIf (dtB (dOp oLt (dVar 0) (dC (.int 2)))) (dRet (dVar 4)) (dNext)) (dSeq (dIf (dtB (dOp oLt (dVar 0) (dC (.int 4)))) (dSeq (dAsg (dTup (dCons (dC (.str "sub")) (dCons (dOp oIx (dLst (dCons (dVar 3) (dCons (dTup (dCons (dC (.str "not")) (dCons (dVar 3) (dNil)))) (dNil)))) (dOp oMod (dVar 0) (dC (.int 2)))) (dCons (dTup (dCons (dC (.str "add")) (dCons (dVar 3) (dCons (dVar 3) (dNil))))) (dNil))))) (.nm 8)) (dRet (dTup (dCons (dC (.str "or")) (dCons (dVar 6) (dCons (dVar 8) (dNil))))))) (dNext)) (dSeq (dAsg (dLst (dCons (dTup (dCons (dC (.str "and")) (dCons (dC (.str "Q")) (dCons (dVar 3) (dNil))))) (dCons (dTup (dCons (dC (.str "and")) (dCons (dVar 3) (dCons (dC (.str "add")) (dNil))))) (dCons (dTup (dCons (dC (.str "mul")) (dCons (dVar 3) (dCons (dOp oShl (dC (.int 1)) (dVar 2)) (dNil))))) (dCons (dTup (dCons (dC (.str "mul")) (dCons (dVar 3) (dCons (dOp oSub (dOp oShl (dC (.int 1)) (dVar 2)) (dC (.int 1))) (dNil))))) (dCons (dUn oNeg (dC (.int 1))) (dNil))))))) (.nm 9)) (dSeq (dAsg (dOp oAdd (dVar 9) (dLst (dCons (dTup (dCons (dC (.str "not")) (dCons (dVar 3) (dCons (dVar 3) (dNil))))) (dCons (dTup (dCons (dC (.str "add")) (dCons (dVar 3) (dNil)))) (dCons (dTup (dCons (dC (.str "pick")) (dCons (dVar 3) (dCons (dVar 3) (dNil))))) (dCons (dTup (dNil)) (dCons (dTup (dCons (dC (.str "nand")) (dCons (dVar 3) (dCons (dVar 3) (dNil))))) (dCons (dTup (dCons (dC (.int 1)) (dCons (dVar 3) (dNil)))) (dCons (dVar 7) (dNil)))))))))) (.nm 9)) (dSeq (dAsg (dOp oAdd (dVar 9) (dLst (dCons (dTup (dCons (dC (.str "sub")) (dCons (dTup (dCons (dC (.str "neg")) (dNil))) (dCons (dVar 3) (dNil))))) (dCons (dC (.str "and")) (dCons (dTup (dCons (dC (.str "lt")) (dCons (dC (.str "")) (dCons (dVar 3) (dNil))))) (dNil)))))) (.nm 9)) (dRet (dOp oIx (dVar 9) (dOp oMod (dVar 0) (dL oLen (dCons (dVar 9) (dNil)))))))))))))))
theorem two_at {α : Type} {a b : α} (i : Nat) : ∃ x, ([a, b] : List α)[i % 2]? = some x ∧ (x = a ∨ x = b) := by
  have : i % 2 < 2 := Nat.mod_lt _ (by decide)
  match h : i % 2, this with
  | 0, _ => exact ⟨a, rfl, .inl rfl⟩
  | 1, _ => exact ⟨b, rfl, .inr rfl⟩
theorem mod2 (i : Nat) : ((i : Int) % 2) = ((i % 2 : Nat) : Int) := by push_cast; rfl
theorem r_odd_rest {n w : Nat} {q : Addr} {L : D} {M : Mm} {Q : DQ} (hn : n < 19) (hw : w ≤ 9) (hL : FitD 1 L) (h : ∀ d, FitD 12 d → ∀ M', Ext M M' → Q d M') : b_odd_rest (En Q) [some (.int n), some (.ref q), some (.int w), some L, none, none, none, none, none, none] M := by
  have z2 : (0 : Int) < 2 := by decide
  refine ⟨z2, by have := mod2 n; have : n % 2 < 2 := Nat.mod_lt _ (by decide); omega, by have := mod2 n; have : n % 2 < 2 := Nat.mod_lt _ (by decide); omega, ?_⟩
  refine ⟨fun i E M' => Ext M M' ∧ ∃ (d : D) (x : Option D), FitD (i + 1) d ∧ E = [some (.int n), some (.ref q), some (.int w), some L, some d, x, none, none, none, none], ⟨Ext.refl _, L, none, hL, rfl⟩, fun _ _ _ _ => trivial, ?_, ?_⟩
  · rintro i E M' e he ⟨hx, d, x, hd, rfl⟩
    obtain ⟨hi, rfl⟩ := rng_at he
    rw [Int.zero_add]
    refine ⟨by show 2 ≤ sizeLine; decide, fun l hl => ?_⟩
    obtain ⟨v, hv, hv2⟩ := two_at (a := D.str "not") (b := D.str "neg") i
    refine ⟨z2, .inl ⟨_, _, v, updM_same, rfl, ?_, by show 2 ≤ sizeLine; decide, hx.trans (Ext.new hl), .tup [v, d], _, f2 ?_ hd, rfl⟩⟩
    · rw [mod2]
      exact atI_nat hv
    · rcases hv2 with rfl | rfl <;> exact fs _
  rintro E M1 ⟨x1, deep, x, hdeep, rfl⟩
  rw [rng_len] at hdeep
  have hdeep : FitD 12 deep := hdeep.mono (by
    have := mod2 n
    have : n % 2 < 2 := Nat.mod_lt _ (by decide)
    show ((6 : Int) + (n : Int) % 2).toNat + 1 ≤ 12
    omega)
  refine ⟨by decide, by decide, ?_⟩
  refine ⟨fun i E M' => M' = M1 ∧ ∃ (d : D) (x : Option D), FitD (i + 1) d ∧ E = [some (.int n), some (.ref q), some (.int w), some L, some deep, x, some d, none, none, none], ⟨rfl, L, _, hL, rfl⟩, fun _ _ _ _ => trivial, ?_, ?_⟩
  · rintro i E M' e he ⟨rfl, d, x, hd, rfl⟩
    exact ⟨by show 3 ≤ sizeLine; decide, rfl, _, _, f3 (fs _) hd (hL.mono (by omega)), rfl⟩
  rintro E M' ⟨rfl, long, x, hlong, rfl⟩
  have hlong : FitD 5 long := hlong
  refine ⟨by show 3 ≤ sizeLine; decide, by show 4 ≤ sizeLine; decide, ?_⟩
  refine ⟨fun _ => h deep hdeep _ x1, fun _ => ⟨fun _ => ?_, fun _ => ?_⟩⟩
  · refine ⟨by show 2 ≤ sizeLine; decide, by show 2 ≤ sizeLine; decide, fun l hl => ?_⟩
    obtain ⟨v, hv, hv2⟩ := two_at (a := L) (b := D.tup [.str "not", L]) n
    have hvf : FitD 9 v := by
      rcases hv2 with rfl | rfl
      · exact hL.mono (by decide)
      · exact f2 (fs _) (hL.mono (by decide))
    refine ⟨z2, .inl ⟨_, _, v, updM_same, rfl, by rw [mod2]; exact atI_nat hv, by show 3 ≤ sizeLine; decide, by show 3 ≤ sizeLine; decide, by show 3 ≤ sizeLine; decide, ?_⟩⟩
    exact h _ (f3 (fs _) (hlong.mono (by decide)) (f3 (n := 10) (fs _) (hvf.mono (by decide)) (f3 (n := 9) (fs _) (hL.mono (by decide)) (hL.mono (by decide))))) _ (x1.trans (Ext.new hl))
  · have hcp : CPow 1 (w : Int) := cpow w (by omega) (by decide)
    refine ⟨by show 3 ≤ sizeLine; decide, by show 3 ≤ sizeLine; decide, hcp, by show 3 ≤ sizeLine; decide, hcp, by show 3 ≤ sizeLine; decide, by show 5 ≤ sizeLine; decide, fun o1 ho1 => ?_⟩
    have y1 := Ext.new (o := .lst (odd1 L (1 * 2 ^ (w : Int).toNat) (1 * 2 ^ (w : Int).toNat - 1))) ho1
    have w1 : updM M' o1 (.lst (odd1 L (1 * 2 ^ (w : Int).toNat) (1 * 2 ^ (w : Int).toNat - 1))) o1 = some (.lst (odd1 L (1 * 2 ^ (w : Int).toNat) (1 * 2 ^ (w : Int).toNat - 1))) := updM_same
    refine ⟨by show 3 ≤ sizeLine; decide, by show 2 ≤ sizeLine; decide, by show 3 ≤ sizeLine; decide, by show 0 ≤ sizeLine; decide, by show 3 ≤ sizeLine; decide, by show 2 ≤ sizeLine; decide, by show 7 ≤ sizeLine; decide, fun o2 ho2 => ?_⟩
    have y2 := Ext.new (o := .lst (odd2 L)) ho2
    refine ⟨_, _, y2 _ _ w1, updM_same, by show 5 + 7 ≤ sizeLine; decide, fun o3 ho3 => ?_⟩
    have y3 := Ext.new (o := .lst (odd1 L (1 * 2 ^ (w : Int).toNat) (1 * 2 ^ (w : Int).toNat - 1) ++ odd2 L)) ho3
    refine ⟨by show 1 ≤ sizeLine; decide, by show 3 ≤ sizeLine; decide, by show 3 ≤ sizeLine; decide, by show 3 ≤ sizeLine; decide, fun o4 ho4 => ?_⟩
    have y4 := Ext.new (o := .lst (odd3 L)) ho4
    refine ⟨_, _, y4 _ _ updM_same, updM_same, by show 12 + 3 ≤ sizeLine; decide, fun o5 ho5 => ?_⟩
    have y5 := Ext.new (o := .lst (odd1 L (1 * 2 ^ (w : Int).toNat) (1 * 2 ^ (w : Int).toNat - 1) ++ odd2 L ++ odd3 L)) ho5
    have hlt : n % 15 < (odd1 L (1 * 2 ^ (w : Int).toNat) (1 * 2 ^ (w : Int).toNat - 1) ++ odd2 L ++ odd3 L).length := Nat.mod_lt _ (by decide)
    have hfit := odd_fit hL (1 * 2 ^ (w : Int).toNat) (1 * 2 ^ (w : Int).toNat - 1) _ (List.getElem_mem hlt)
    have hat := getE hlt
    refine .inl ⟨_, updM_same, by show (0 : Int) < 15; decide, .inl ⟨_, _, _, updM_same, rfl, ?_, h _ hfit _ ((((((x1.trans y1).trans y2).trans y3).trans y4).trans y5))⟩⟩
    have e15 : ((n : Int) % 15) = ((n % 15 : Nat) : Int) := by push_cast; rfl
    show atI (odd1 L (1 * 2 ^ (w : Int).toNat) (1 * 2 ^ (w : Int).toNat - 1) ++ odd2 L ++ odd3 L) ((n : Int) % 15) = _
    rw [e15]
    exact atI_nat hat
def sp_odd : DSp := fun ds M Q _ => ∃ (n w : Nat) (q : Addr) (nms : List Str), ds = [.int n, .ref q, .int w] ∧ n < 19 ∧ w ≤ 9 ∧ M q = some (.lst (nms.map .str)) ∧ (∀ s ∈ nms, PyData.strOk s = true) ∧ ∀ d, FitD 12 d → ∀ M', Ext M M' → Q d M'
theorem r__law_odd : ∀ ds M Q E, sp_odd ds M Q E → b__law_odd (En Q) (startD 10 ds) M := by
  rintro ds M Q E ⟨n, w, q, nms, rfl, hn, hw, hq, hso, h⟩
  refine .inl ⟨_, hq, fun hb => ?_, fun hb => ?_⟩
  · have hb := of_decide_eq_true hb
    rw [List.length_map] at hb
    have hl : nms.length - 1 < nms.length := by omega
    refine .inl ⟨_, hq, .inl ⟨_, _, .str nms[nms.length - 1], hq, rfl, ?_, ?_⟩⟩
    · have e : ((((nms.map D.str).length : Nat) : Int) - 1) = ((nms.length - 1 : Nat) : Int) := by rw [List.length_map]; omega
      show atI (nms.map D.str) ((((nms.map D.str).length : Nat) : Int) - 1) = _
      rw [e]
      exact atI_nat (by rw [List.getElem?_map, getE hl]; rfl)
    · exact r_odd_rest hn hw (fit_str (hso _ (List.getElem_mem hl)) _) h
  · exact r_odd_rest hn hw (fit_int _ _) h
end Ry

set_option Elab.async false
set_option linter.all false
set_option autoImplicit false
set_option maxRecDepth 100000
set_option maxHeartbeats 8000000
/-! readings for k86: drawn data -/
namespace Ry
open PySem PySem.Spec PyProof.Rows L2 DH Bd Rd
local macro_rules | `(tactic| walk_at "if") => `(tactic| first | (refine ⟨fun _ => ?_, fun hc => absurd hc (by decide)⟩) | (refine ⟨fun hc => absurd hc (by decide), fun _ => ?_⟩))
def GS (s : Str) : Prop := AN s ∧ s.length ≤ 20
structure TY.Ok2 (t : TY) : Prop where
  w9 : t.w ≤ 9
  ni : t.ins.length ≤ 70
  nn : t.needs.length ≤ 70
  nl : t.lets.length ≤ 70
  no : t.outs.length ≤ 70
  si : ∀ s ∈ t.ins, GS s
  fn : ∀ d ∈ t.needs, FitD 12 d
  fl : ∀ p ∈ t.lets, GS p.1 ∧ FitD 12 p.2
  fo : ∀ p ∈ t.outs, FitD 12 p.2
theorem TY.Ok2.fit {t : TY} (h : t.Ok2) : t.Fit := ⟨h.w9, by have := h.ni; omega, by have := h.nn; omega, by have := h.nl; omega, by have := h.no; omega, fun s hs => by have := (h.si s hs).2; omega, fun d hd => (h.fn d hd).tr, fun p hp => ⟨by have := (h.fl p hp).1.2; omega, (h.fl p hp).2.tr⟩, fun p hp => (h.fo p hp).tr⟩
structure DaY (p c : Addr) (M : Mm) (a : Addr) (t : TY) : Prop where
  ex : ∃ a1 a2 a3 a4, M a = some (.lst [.int t.w, .ref a1, .ref a2, .ref a3, .ref a4]) ∧ M a1 = some (.lst (t.ins.map .str)) ∧ M a2 = some (.lst t.needs) ∧ M a3 = some (.lst (letD t.lets)) ∧ M a4 = some (.lst (outI t.outs)) ∧
    a ≠ c ∧ a1 ≠ c ∧ a2 ≠ c ∧ a3 ≠ c ∧ a4 ≠ c ∧ a1 ≠ a2 ∧ a1 ≠ a3 ∧ a1 ≠ a4 ∧ a2 ≠ a3 ∧ a2 ≠ a4 ∧ a3 ≠ a4 ∧ a ≠ a1 ∧ a ≠ a2 ∧ a ≠ a3 ∧ a ≠ a4 ∧ a1 ≠ p ∧ a2 ≠ p ∧ a3 ≠ p ∧ a4 ≠ p
theorem pne {p c q : Addr} {M : Mm} (d : Dw p c M) (h : M q = none) : q ≠ p := fun z => by
  subst z; obtain ⟨ds, hk, _⟩ := d.nums; rw [h] at hk; cases hk
theorem new_ne {M : Mm} {a p : Addr} {o : MO} (h : M a = some o) (hp : M p = none) : a ≠ p := fun z => by subst z; rw [hp] at h; cases h
def b_data_rest (s__law_take s__law_name s__law_formula : DSp) : DS := dSeq (dAsg (dLst (dNil)) (.nm 9)) (dSeq (dAsg (dL oList (dCons (dVar 5) (dNil))) (.nm 10)) (dSeq (dFor (dRng1 (dCons (dVar 8) (dNil))) (.nm 6) (dSeq (dAsg (dCall s__law_name (dCons (dVar 0) (dCons (dVar 1) (dCons (dOp oAdd (dVar 6) (dC (.int 5))) (dCons (dVar 3) (dNil)))))) (.nm 11)) (dSeq (dDrop (dApp (dVar 9) (dTup (dCons (dVar 11) (dCons (dCall s__law_formula (dCons (dVar 0) (dCons (dVar 1) (dCons (dVar 10) (dCons (dVar 2) (dCons (dOp oAdd (dC (.int 1)) (dL oInt1 (dCons (dOp oLt (dVar 8) (dC (.int 9))) (dNil)))) (dNil))))))) (dNil)))))) (dDrop (dApp (dVar 10) (dVar 11)))))) (dSeq (dAsg (dLst (dNil)) (.nm 12)) (dSeq (dAsg (dOp oAdd (dOp oSub (dCall s__law_take (dCons (dVar 0) (dCons (dVar 1) (dCons (dC (.int 3)) (dNil))))) (dC (.int 1))) (dL oInt1 (dCons (dOp oGt (dCall s__law_take (dCons (dVar 0) (dCons (dVar 1) (dCons (dC (.int 4)) (dNil))))) (dC (.int 0))) (dNil)))) (.nm 13)) (dSeq (dFor (dRng1 (dCons (dCall s__law_take (dCons (dVar 0) (dCons (dVar 1) (dCons (dC (.int 4)) (dNil))))) (dNil))) (.nm 6) (dSeq (dDrop (dApp (dVar 12) (dTup (dCons (dVar 13) (dCons (dCall s__law_formula (dCons (dVar 0) (dCons (dVar 1) (dCons (dVar 10) (dCons (dVar 2) (dCons (dC (.int 2)) (dNil))))))) (dNil)))))) (dAsg (dOp oSub (dOp oAdd (dOp oAdd (dVar 13) (dC (.int 1))) (dL oInt1 (dCons (dOp oEq (dCall s__law_take (dCons (dVar 0) (dCons (dVar 1) (dCons (dC (.int 6)) (dNil))))) (dC (.int 0))) (dNil)))) (dL oInt1 (dCons (dOp oEq (dCall s__law_take (dCons (dVar 0) (dCons (dVar 1) (dCons (dC (.int 9)) (dNil))))) (dC (.int 0))) (dNil)))) (.nm 13)))) (dRet (dLst (dCons (dVar 2) (dCons (dVar 5) (dCons (dVar 7) (dCons (dVar 9) (dCons (dVar 12) (dNil)))))))))))))
theorem take_int {sp : DSp} : True := trivial
theorem r_data_rest {p c li ln : Addr} {w n : Nat} {z mz : Int} {pl : Bool} {ins : List Str} {needs : List D} {x6 : Option D} {M0 M : Mm} {Q : DQ} (hz : z = n) (hn : n ≤ 70) (hw : w ≤ 9) (dw : Dw p c M) (hlic : li ≠ c) (hlip : li ≠ p) (hlnp : ln ≠ p) (hli : M li = some (.lst (ins.map .str))) (hlnc : ln ≠ c) (hln : M ln = some (.lst needs)) (hii : li ≠ ln)
    (il : ins.length ≤ 70) (is : ∀ s ∈ ins, GS s) (nl : needs.length ≤ 70) (nf : ∀ d ∈ needs, FitD 12 d) (h : ∀ (a : Addr) (t : TY) (M' : Mm), t.Ok2 → DaY p c M' a t → Dr c M M' → Q (.ref a) M') :
    b_data_rest sp_take sp_name2 (sp_formula2 4) (En Q) [some (.ref p), some (.ref c), some (.int w), some (.bl pl), some (.int mz), some (.ref li), x6, some (.ref ln), some (.int z), none, none, none, none, none] M := by
  subst hz
  refine ⟨by show 0 ≤ sizeLine; decide, fun la hla => ?_⟩
  have xl : Ext M (updM M la (.lst [])) := Ext.new hla
  have lam : updM M la (.lst []) la = some (.lst []) := updM_same
  generalize updM M la (.lst []) = Ml at xl lam ⊢
  refine ⟨_, xl _ _ hli, fun kn hkn => ?_⟩
  have hkn0 := xl.back hkn
  have hlk : la ≠ kn := new_ne lam hkn
  have xk : Ext Ml (updM Ml kn (.lst (ins.map .str))) := Ext.new hkn
  have knm : updM Ml kn (.lst (ins.map .str)) kn = some (.lst (ins.map .str)) := updM_same
  generalize updM Ml kn (.lst (ins.map .str)) = Mk at xk knm ⊢
  have hlac := dw.cne hla
  have hknc := dw.cne hkn0
  refine ⟨by omega, by omega, ?_⟩
  refine ⟨fun i E M' => Dr c M M' ∧ (∃ l : List (Str × D), M' la = some (.lst (letD l)) ∧ M' kn = some (.lst ((ins ++ l.map Prod.fst).map .str)) ∧ l.length = i ∧ ∀ e ∈ l, GS e.1 ∧ FitD 12 e.2) ∧ ∃ x y : Option D, E = [some (.ref p), some (.ref c), some (.int w), some (.bl pl), some (.int mz), some (.ref li), x, some (.ref ln), some (.int (n : Int)), some (.ref la), some (.ref kn), y, none, none], ⟨.ofExt (xl.trans xk), ⟨[], xk _ _ lam, by rw [List.map_nil, List.append_nil]; exact knm, rfl, by simp⟩, x6, none, rfl⟩, fun _ _ _ _ => trivial, ?_, ?_⟩
  · rintro i E M' d hd ⟨hx, ⟨l, hl1, hl2, hl3, hl4⟩, x, y, rfl⟩
    obtain ⟨hi, rfl⟩ := rng_at hd
    have hi : i < n := by have : i < (n : Int).toNat := hi; omega
    rw [Int.zero_add]
    refine ⟨p, c, i + 5, pl, by show [_, _, D.int ((i : Int) + 5), _] = _; push_cast; rfl, by omega, dw.go hx, fun s hs1 hs2 M1 d1 => ?_⟩
    have hx1 := hx.trans d1
    have la1 := d1.ex _ _ hlac hl1
    have kn1 := d1.ex _ _ hknc hl2
    have dep : ∃ k : Nat, k ≤ 2 ∧ (1 + (if decide ((n : Int) < 9) = true then (1 : Int) else 0)) = (k : Int) := by
      cases decide ((n : Int) < 9)
      · exact ⟨1, by decide, rfl⟩
      · exact ⟨2, by decide, rfl⟩
    obtain ⟨dk, hdk, edk⟩ := dep
    have names_ok : ∀ s ∈ ins ++ l.map Prod.fst, PyData.strOk s = true := fun s hs => by
      rcases List.mem_append.mp hs with hs | hs
      · exact an_ok (is s hs).1
      · obtain ⟨e, he, rfl⟩ := List.mem_map.mp hs
        exact an_ok (hl4 e he).1.1
    refine ⟨⟨_, la1⟩, p, c, kn, w, dk, ins ++ l.map Prod.fst, ?_, by omega, hw, dw.go hx1, hknc, kn1, names_ok, fun f hf M2 d2 => ?_⟩
    · show [_, _, _, _, D.int (1 + (if decide ((n : Int) < 9) = true then (1 : Int) else 0))] = _
      rw [edk]
    have hx2 := hx1.trans d2
    have la2 := d2.ex _ _ hlac la1
    have kn2 := d2.ex _ _ hknc kn1
    refine ⟨by show 2 ≤ sizeLine; decide, _, la2, by unfold letD; rw [List.length_map]; exact tolist (by omega), ?_⟩
    have la3 : updM M2 la (.lst (letD l ++ [.tup [.str s, f]])) la = some (.lst (letD (l ++ [(s, f)]))) := by
      rw [updM_same]; unfold letD; rw [List.map_append]; rfl
    have kn3 : updM M2 la (.lst (letD l ++ [.tup [.str s, f]])) kn = some (.lst ((ins ++ l.map Prod.fst).map .str)) := by rw [updM_ne (Ne.symm hlk)]; exact kn2
    have hx3 : Dr c M (updM M2 la (.lst (letD l ++ [.tup [.str s, f]]))) := hx2.mut dw.cur hla
    refine ⟨⟨_, kn3⟩, _, kn3, by rw [List.length_map, List.length_append, List.length_map]; exact tolist (by omega), hx3.mut dw.cur hkn0, ⟨l ++ [(s, f)], ?_, ?_, by simp [hl3], fun e he => ?_⟩, _, _, rfl⟩
    · rw [updM_ne hlk]; exact la3
    · rw [updM_same]; simp
    · rcases List.mem_append.mp he with he | he
      · exact hl4 e he
      · cases List.mem_singleton.mp he
        exact ⟨⟨hs2, hs1⟩, hf.mono (by omega)⟩
  rintro E M' ⟨hx, ⟨l, hl1, hl2, hl3, hl4⟩, x, y, rfl⟩
  rw [rng_len] at hl3
  have hl3 : l.length ≤ 70 := by have : l.length = (n : Int).toNat := hl3; omega
  have names_ok : ∀ s ∈ ins ++ l.map Prod.fst, PyData.strOk s = true := fun s hs => by
    rcases List.mem_append.mp hs with hs | hs
    · exact an_ok (is s hs).1
    · obtain ⟨e, he, rfl⟩ := List.mem_map.mp hs
      exact an_ok (hl4 e he).1.1
  have dw' := dw.go hx
  refine ⟨by show 0 ≤ sizeLine; decide, fun oa hoa => ?_⟩
  have xo : Ext M' (updM M' oa (.lst [])) := Ext.new hoa
  have oam : updM M' oa (.lst []) oa = some (.lst []) := updM_same
  have hoc := dw'.cne hoa
  generalize updM M' oa (.lst []) = Mo at xo oam ⊢
  have dwo := dw'.go (.ofExt xo)
  refine ⟨p, c, 3, rfl, by decide, dwo, fun r1 hr1 M1 d1 => ?_⟩
  have dw1 := dwo.go d1
  refine ⟨p, c, 4, rfl, by decide, dw1, fun r2 hr2 M2 d2 => ?_⟩
  have dw2 := dw1.go d2
  refine ⟨p, c, 4, rfl, by decide, dw2, fun r3 hr3 M3 d3 => ⟨by omega, by omega, ?_⟩⟩
  have dw3 := dw2.go d3
  have dM3 : Dr c Mo M3 := (d1.trans d2).trans d3
  have xm : Dr c M' M3 := (Dr.ofExt xo).trans dM3
  refine ⟨fun i E M4 => Dr c M' M4 ∧ (∃ o : List (Int × D), M4 oa = some (.lst (outI o)) ∧ o.length ≤ i ∧ ∀ e ∈ o, FitD 12 e.2) ∧ ∃ (x y : Option D) (rg : Int), E = [some (.ref p), some (.ref c), some (.int w), some (.bl pl), some (.int mz), some (.ref li), x, some (.ref ln), some (.int (n : Int)), some (.ref la), some (.ref kn), y, some (.ref oa), some (.int rg)], ⟨xm, ⟨[], dM3.ex _ _ hoc oam, Nat.le_refl _, by simp⟩, _, _, _, rfl⟩, fun _ _ _ _ => trivial, ?_, ?_⟩
  · rintro i E M4 d hd ⟨hx4, ⟨o, ho1, ho2, ho3⟩, x, y, rg, rfl⟩
    obtain ⟨hi, rfl⟩ := rng_at hd
    have hi : i < 4 := by have : i < (r3 : Int).toNat := hi; omega
    have dw4 := dw'.go hx4
    refine ⟨⟨_, ho1⟩, p, c, kn, w, 2, ins ++ l.map Prod.fst, rfl, by decide, hw, dw4, hknc, hx4.ex _ _ hknc hl2, names_ok, fun f hf M5 d5 => ?_⟩
    have hx5 := hx4.trans d5
    refine ⟨by show 2 ≤ sizeLine; decide, _, d5.ex _ _ hoc ho1, by rw [outI_len]; exact tolist (by omega), ?_⟩
    have hx6 : Dr c M' (updM M5 oa (.lst (outI o ++ [.tup [.int rg, f]]))) := hx5.mut dw'.cur hoa
    have oa6 : updM M5 oa (.lst (outI o ++ [.tup [.int rg, f]])) oa = some (.lst (outI (o ++ [(rg, f)]))) := by
      rw [updM_same]; unfold outI; rw [List.map_append]; rfl
    refine ⟨p, c, 6, rfl, by decide, dw'.go hx6, fun r6 hr6 M7 d7 => ?_⟩
    refine ⟨p, c, 9, rfl, by decide, dw'.go (hx6.trans d7), fun r8 hr8 M8 d8 => ?_⟩
    refine ⟨(hx6.trans d7).trans d8, ⟨o ++ [(rg, f)], d8.ex _ _ hoc (d7.ex _ _ hoc oa6), by simp; omega, fun e he => ?_⟩, _, _, _, rfl⟩
    rcases List.mem_append.mp he with he | he
    · exact ho3 e he
    · cases List.mem_singleton.mp he
      exact hf.mono (by decide)
  rintro E M4 ⟨hx4, ⟨o, ho1, ho2, ho3⟩, x, y, rg, rfl⟩
  rw [rng_len] at ho2
  have ho2 : o.length ≤ 70 := by have : o.length ≤ (r3 : Int).toNat := ho2; omega
  have all := hx.trans hx4
  have li4 := all.ex _ _ hlic hli
  have ln4 := all.ex _ _ hlnc hln
  have la4 := hx4.ex _ _ hlac hl1
  have dw4 := dw.go all
  refine ⟨by show 5 ≤ sizeLine; decide, fun a ha => ?_⟩
  have hac := dw4.cne ha
  have xa := Ext.new (o := .lst [.int (w : Int), .ref li, .ref ln, .ref la, .ref oa]) ha
  refine h a ⟨w, ins, needs, l, o⟩ _ ⟨hw, il, nl, hl3, ho2, is, nf, hl4, ho3⟩ ⟨li, ln, la, oa, updM_same, xa _ _ li4, xa _ _ ln4, xa _ _ la4, xa _ _ ho1, hac, hlic, hlnc, hlac, hoc, hii, new_ne hli hla, new_ne (hx.ex _ _ hlic hli) hoa, new_ne hln hla, new_ne (hx.ex _ _ hlnc hln) hoa, new_ne hl1 hoa, Ne.symm (new_ne li4 ha), Ne.symm (new_ne ln4 ha), Ne.symm (new_ne la4 ha), Ne.symm (new_ne ho1 ha), hlip, hlnp, pne dw hla, pne dw' hoa⟩ (all.trans (.ofExt xa))
end Ry

set_option Elab.async false
set_option linter.all false
set_option autoImplicit false
set_option maxRecDepth 100000
set_option maxHeartbeats 4000000
/-! readings for k86: drawn data, first part -/
namespace Ry
open PySem PySem.Spec PyProof.Rows L2 DH Bd Rd
local macro_rules | `(tactic| walk_at "if") => `(tactic| first | (refine ⟨fun _ => ?_, fun hc => absurd hc (by decide)⟩) | (refine ⟨fun hc => absurd hc (by decide), fun _ => ?_⟩))
def ten : List D := [.int 1, .int 2, .int 2, .int 3, .int 4, .int 1, .int 2, .int 3, .int 0, .int 5]
def seven : List D := [.int 0, .int 0, .int 1, .int 1, .int 2, .int 2, .int 3]
theorem ten_at (r : Nat) (h : r < 10) : ∃ m : Nat, ten[r]? = some (.int m) ∧ m ≤ 5 := by
  have : ∀ r : Fin 10, ∃ m : Nat, ten[r.1]? = some (.int m) ∧ m ≤ 5 := by
    intro r
    match r with
    | ⟨0, _⟩ => exact ⟨1, rfl, by decide⟩
    | ⟨1, _⟩ => exact ⟨2, rfl, by decide⟩
    | ⟨2, _⟩ => exact ⟨2, rfl, by decide⟩
    | ⟨3, _⟩ => exact ⟨3, rfl, by decide⟩
    | ⟨4, _⟩ => exact ⟨4, rfl, by decide⟩
    | ⟨5, _⟩ => exact ⟨1, rfl, by decide⟩
    | ⟨6, _⟩ => exact ⟨2, rfl, by decide⟩
    | ⟨7, _⟩ => exact ⟨3, rfl, by decide⟩
    | ⟨8, _⟩ => exact ⟨0, rfl, by decide⟩
    | ⟨9, _⟩ => exact ⟨5, rfl, by decide⟩
  exact this ⟨r, h⟩
theorem seven_at (r : Nat) (h : r < 7) : ∃ m : Nat, seven[r]? = some (.int m) ∧ m ≤ 3 := by
  have : ∀ r : Fin 7, ∃ m : Nat, seven[r.1]? = some (.int m) ∧ m ≤ 3 := by
    intro r
    match r with
    | ⟨0, _⟩ => exact ⟨0, rfl, by decide⟩
    | ⟨1, _⟩ => exact ⟨0, rfl, by decide⟩
    | ⟨2, _⟩ => exact ⟨1, rfl, by decide⟩
    | ⟨3, _⟩ => exact ⟨1, rfl, by decide⟩
    | ⟨4, _⟩ => exact ⟨2, rfl, by decide⟩
    | ⟨5, _⟩ => exact ⟨2, rfl, by decide⟩
    | ⟨6, _⟩ => exact ⟨3, rfl, by decide⟩
  exact this ⟨r, h⟩
def denZ (w : Nat) : Int := if (1 : Int) > w then 1 else w
def mostZ (w : Nat) : Int := if (if (8 : Int) / denZ w < 4 then (8 : Int) / denZ w else 4) > 1 then (if (8 : Int) / denZ w < 4 then (8 : Int) / denZ w else 4) else 1
theorem most_le (w : Nat) (h : w ≤ 5) : ∃ m : Nat, mostZ w = m ∧ 1 ≤ m ∧ m ≤ 4 := by
  have : ∀ w : Fin 6, mostZ w.1 = ((mostZ w.1).toNat : Nat) ∧ 1 ≤ (mostZ w.1).toNat ∧ (mostZ w.1).toNat ≤ 4 := by decide +kernel
  exact ⟨_, this ⟨w, by omega⟩⟩
theorem den_pos (w : Nat) : 0 < denZ w := by unfold denZ; split <;> omega
def sp_data2 : DSp := fun ds M Q _ => ∃ (p c : Addr), ds = [.ref p, .ref c] ∧ Dw p c M ∧ ∀ (a : Addr) (t : TY) (M' : Mm), t.Ok2 → DaY p c M' a t → Dr c M M' → Q (.ref a) M'
def b_data_mid (s__law_take s__law_name s__law_formula : DSp) : DS := dSeq (dAsg (dLst (dNil)) (.nm 5)) (dSeq (dFor (dRng1 (dCons (dOp oAdd (dCall s__law_take (dCons (dVar 0) (dCons (dVar 1) (dCons (dOp oAdd (dVar 4) (dC (.int 1))) (dNil))))) (dL oInt1 (dCons (dOp oEq (dCall s__law_take (dCons (dVar 0) (dCons (dVar 1) (dCons (dC (.int 12)) (dNil))))) (dC (.int 0))) (dNil)))) (dNil))) (.nm 6) (dDrop (dApp (dVar 5) (dCall s__law_name (dCons (dVar 0) (dCons (dVar 1) (dCons (dVar 6) (dCons (dVar 3) (dNil))))))))) (dSeq (dAsg (dLst (dNil)) (.nm 7)) (dSeq (dFor (dRng1 (dCons (dOp oIx (dLst (dCons (dC (.int 0)) (dCons (dC (.int 0)) (dCons (dC (.int 1)) (dCons (dC (.int 1)) (dCons (dC (.int 2)) (dCons (dC (.int 2)) (dCons (dC (.int 3)) (dNil))))))))) (dCall s__law_take (dCons (dVar 0) (dCons (dVar 1) (dCons (dC (.int 7)) (dNil)))))) (dNil))) (.nm 6) (dDrop (dApp (dVar 7) (dCall s__law_formula (dCons (dVar 0) (dCons (dVar 1) (dCons (dVar 5) (dCons (dVar 2) (dCons (dC (.int 2)) (dNil)))))))))) (dSeq (dAsg (dCall s__law_take (dCons (dVar 0) (dCons (dVar 1) (dCons (dC (.int 7)) (dNil))))) (.nm 8)) (dSeq (dIf (dtB (dOp oEq (dCall s__law_take (dCons (dVar 0) (dCons (dVar 1) (dCons (dC (.int 16)) (dNil))))) (dC (.int 0)))) (dAsg (dOp oAdd (dC (.int 56)) (dCall s__law_take (dCons (dVar 0) (dCons (dVar 1) (dCons (dC (.int 7)) (dNil)))))) (.nm 8)) (dNext)) (dSeq (dAsg (dLst (dNil)) (.nm 9)) (dSeq (dAsg (dL oList (dCons (dVar 5) (dNil))) (.nm 10)) (dSeq (dFor (dRng1 (dCons (dVar 8) (dNil))) (.nm 6) (dSeq (dAsg (dCall s__law_name (dCons (dVar 0) (dCons (dVar 1) (dCons (dOp oAdd (dVar 6) (dC (.int 5))) (dCons (dVar 3) (dNil)))))) (.nm 11)) (dSeq (dDrop (dApp (dVar 9) (dTup (dCons (dVar 11) (dCons (dCall s__law_formula (dCons (dVar 0) (dCons (dVar 1) (dCons (dVar 10) (dCons (dVar 2) (dCons (dOp oAdd (dC (.int 1)) (dL oInt1 (dCons (dOp oLt (dVar 8) (dC (.int 9))) (dNil)))) (dNil))))))) (dNil)))))) (dDrop (dApp (dVar 10) (dVar 11)))))) (dSeq (dAsg (dLst (dNil)) (.nm 12)) (dSeq (dAsg (dOp oAdd (dOp oSub (dCall s__law_take (dCons (dVar 0) (dCons (dVar 1) (dCons (dC (.int 3)) (dNil))))) (dC (.int 1))) (dL oInt1 (dCons (dOp oGt (dCall s__law_take (dCons (dVar 0) (dCons (dVar 1) (dCons (dC (.int 4)) (dNil))))) (dC (.int 0))) (dNil)))) (.nm 13)) (dSeq (dFor (dRng1 (dCons (dCall s__law_take (dCons (dVar 0) (dCons (dVar 1) (dCons (dC (.int 4)) (dNil))))) (dNil))) (.nm 6) (dSeq (dDrop (dApp (dVar 12) (dTup (dCons (dVar 13) (dCons (dCall s__law_formula (dCons (dVar 0) (dCons (dVar 1) (dCons (dVar 10) (dCons (dVar 2) (dCons (dC (.int 2)) (dNil))))))) (dNil)))))) (dAsg (dOp oSub (dOp oAdd (dOp oAdd (dVar 13) (dC (.int 1))) (dL oInt1 (dCons (dOp oEq (dCall s__law_take (dCons (dVar 0) (dCons (dVar 1) (dCons (dC (.int 6)) (dNil))))) (dC (.int 0))) (dNil)))) (dL oInt1 (dCons (dOp oEq (dCall s__law_take (dCons (dVar 0) (dCons (dVar 1) (dCons (dC (.int 9)) (dNil))))) (dC (.int 0))) (dNil)))) (.nm 13)))) (dRet (dLst (dCons (dVar 2) (dCons (dVar 5) (dCons (dVar 7) (dCons (dVar 9) (dCons (dVar 12) (dNil)))))))))))))))))))
theorem r_data_mid {p c : Addr} {w m : Nat} {mz : Int} {pl : Bool} {M : Mm} {Q : DQ} (hmz : mz = m) (hm4 : m ≤ 4) (hw : w ≤ 9) (dw : Dw p c M) (h : ∀ (a : Addr) (t : TY) (M' : Mm), t.Ok2 → DaY p c M' a t → Dr c M M' → Q (.ref a) M') :
    b_data_mid sp_take sp_name2 (sp_formula2 4) (En Q) [some (.ref p), some (.ref c), some (.int w), some (.bl pl), some (.int mz), none, none, none, none, none, none, none, none, none] M := by
  subst hmz
  refine ⟨by show 0 ≤ sizeLine; decide, fun li hli => ?_⟩
  have xi : Ext M (updM M li (.lst [])) := Ext.new hli
  have lim : updM M li (.lst []) li = some (.lst []) := updM_same
  have hlic := dw.cne hli
  generalize updM M li (.lst []) = Mi at xi lim ⊢
  have dwi := dw.go (.ofExt xi)
  refine ⟨p, c, m + 1, by show [_, _, D.int ((m : Int) + 1)] = _; push_cast; rfl, by omega, dwi, fun r1 hr1 M1 d1 => ?_⟩
  have dw1 := dwi.go d1
  refine ⟨p, c, 12, rfl, by decide, dw1, fun r2 hr2 M2 d2 => ?_⟩
  have dw2 := dw1.go d2
  have cnt : ∃ k : Nat, k ≤ 6 ∧ (r1 : Int) + (if decide ((r2 : Int) = 0) = true then (1 : Int) else 0) = (k : Int) := by
    cases decide ((r2 : Int) = 0)
    · exact ⟨r1, by omega, by simp⟩
    · exact ⟨r1 + 1, by omega, by simp⟩
  obtain ⟨k1, hk1, ek1⟩ := cnt
  have bd1 : 0 ≤ (r1 : Int) + (if decide ((r2 : Int) = 0) = true then (1 : Int) else 0) ∧ (r1 : Int) + (if decide ((r2 : Int) = 0) = true then (1 : Int) else 0) ≤ 6 := by rw [ek1]; omega
  have xm : Dr c M M2 := (Dr.ofExt xi).trans (d1.trans d2)
  have lim2 := (d1.trans d2).ex _ _ hlic lim
  refine ⟨by have := bd1; omega, by have := bd1; omega, ?_⟩
  refine ⟨fun i E M' => Dr c M M' ∧ (∃ l : List Str, M' li = some (.lst (l.map .str)) ∧ l.length = i ∧ ∀ s ∈ l, GS s) ∧ ∃ x : Option D, E = [some (.ref p), some (.ref c), some (.int w), some (.bl pl), some (.int (m : Int)), some (.ref li), x, none, none, none, none, none, none, none], ⟨xm, ⟨[], lim2, rfl, by simp⟩, none, rfl⟩, fun _ _ _ _ => trivial, ?_, ?_⟩
  · rintro i E M' d hd ⟨hx, ⟨l, hl1, hl2, hl3⟩, x, rfl⟩
    obtain ⟨hi, rfl⟩ := rng_at hd
    have hi : i < k1 := by rw [show (r1 : Int) + (if decide ((r2 : Int) = 0) = true then (1 : Int) else 0) = (k1 : Int) from ek1] at hi; have : i < (k1 : Int).toNat := hi; omega
    rw [Int.zero_add]
    refine ⟨⟨_, hl1⟩, p, c, i, pl, rfl, by omega, dw.go hx, fun s hs1 hs2 M3 d3 => ?_⟩
    refine ⟨_, d3.ex _ _ hlic hl1, by rw [List.length_map]; exact tolist (by omega), (hx.trans d3).mut dw.cur hli, ⟨l ++ [s], by rw [updM_same, List.map_append]; rfl, by simp [hl2], fun e he => ?_⟩, _, rfl⟩
    rcases List.mem_append.mp he with he | he
    · exact hl3 e he
    · cases List.mem_singleton.mp he; exact ⟨hs2, hs1⟩
  rintro E M' ⟨hx, ⟨l, hl1, hl2, hl3⟩, x, rfl⟩
  have hl2 : l.length ≤ 6 := by
    rw [rng_len] at hl2
    rw [hl2]; have := bd1.2; omega
  have names_ok : ∀ s ∈ l, PyData.strOk s = true := fun s hs => an_ok (hl3 s hs).1
  have dw' := dw.go hx
  refine ⟨by show 0 ≤ sizeLine; decide, fun ln hln => ?_⟩
  have hlnc := dw'.cne hln
  have hii : li ≠ ln := new_ne hl1 hln
  have xn : Ext M' (updM M' ln (.lst [])) := Ext.new hln
  have lnm : updM M' ln (.lst []) ln = some (.lst []) := updM_same
  generalize updM M' ln (.lst []) = Mn at xn lnm ⊢
  have dwn := dw'.go (.ofExt xn)
  refine ⟨by show 7 ≤ sizeLine; decide, fun ls hls => ?_⟩
  have hlsc := dwn.cne hls
  have xs : Ext Mn (updM Mn ls (.lst seven)) := Ext.new hls
  have lsm : updM Mn ls (.lst seven) ls = some (.lst seven) := updM_same
  have dws := dwn.go (.ofExt xs)
  refine ⟨p, c, 7, rfl, by decide, dws, fun r3 hr3 M3 d3 => ?_⟩
  have dw3 := dws.go d3
  obtain ⟨k2, hk2, hk3⟩ := seven_at r3 hr3
  refine .inl ⟨seven, _, .int k2, d3.ex _ _ hlsc lsm, rfl, atI_nat hk2, by omega, by omega, ?_⟩
  have x3 : Dr c M M3 := (hx.trans (.ofExt xn)).trans ((Dr.ofExt xs).trans d3)
  have y3 : Dr c M' M3 := (Dr.ofExt xn).trans ((Dr.ofExt xs).trans d3)
  have ln3 := ((Dr.ofExt xs).trans d3).ex _ _ hlnc lnm
  refine ⟨fun i E M4 => Dr c M' M4 ∧ (∃ l : List D, M4 ln = some (.lst l) ∧ l.length = i ∧ ∀ s ∈ l, FitD 12 s) ∧ ∃ x : Option D, E = [some (.ref p), some (.ref c), some (.int w), some (.bl pl), some (.int (m : Int)), some (.ref li), x, some (.ref ln), none, none, none, none, none, none], ⟨y3, ⟨[], ln3, rfl, by simp⟩, _, rfl⟩, fun _ _ _ _ => trivial, ?_, ?_⟩
  · rintro i E M4 d hd ⟨hx4, ⟨nd, hn1, hn2, hn3⟩, x, rfl⟩
    obtain ⟨hi, rfl⟩ := rng_at hd
    have hi : i < k2 := by have : i < (k2 : Int).toNat := hi; omega
    refine ⟨⟨_, hn1⟩, p, c, li, w, 2, l, rfl, by decide, hw, dw'.go hx4, hlic, hx4.ex _ _ hlic hl1, names_ok, fun f hf M5 d5 => ?_⟩
    refine ⟨_, d5.ex _ _ hlnc hn1, tolist (by omega), (hx4.trans d5).mut dw'.cur hln, ⟨nd ++ [f], updM_same, by simp [hn2], fun e he => ?_⟩, _, rfl⟩
    rcases List.mem_append.mp he with he | he
    · exact hn3 e he
    · cases List.mem_singleton.mp he; exact hf.mono (by decide)
  rintro E M4 ⟨hx4, ⟨nd, hn1, hn2, hn3⟩, x, rfl⟩
  have hn2 : nd.length ≤ 3 := by
    rw [rng_len] at hn2
    have : nd.length = (k2 : Int).toNat := hn2
    omega
  have li4 := hx4.ex _ _ hlic hl1
  have dw4 := dw'.go hx4
  refine ⟨p, c, 7, rfl, by decide, dw4, fun r4 hr4 M5 d5 => ?_⟩
  have dw5 := dw4.go d5
  refine ⟨p, c, 16, rfl, by decide, dw5, fun r5 hr5 M6 d6 => ⟨fun hb => ?_, fun hb => ?_⟩⟩
  · have dw6 := dw5.go d6
    refine ⟨p, c, 7, rfl, by decide, dw6, fun r6 hr6 M7 d7 => ?_⟩
    have dd := (d5.trans d6).trans d7
    exact r_data_rest (n := 56 + r6) (M0 := M) (by push_cast; rfl) (by omega) hw (dw6.go d7) hlic (pne dw hli) (pne dw' hln) (dd.ex _ _ hlic li4) hlnc (dd.ex _ _ hlnc hn1) hii (by omega) hl3 (by omega) hn3 fun a t M8 h1 h2 h3 => h a t M8 h1 h2 (((hx.trans hx4).trans dd).trans h3)
  · have dd := d5.trans d6
    exact r_data_rest (n := r4) (M0 := M) rfl (by omega) hw (dw5.go d6) hlic (pne dw hli) (pne dw' hln) (dd.ex _ _ hlic li4) hlnc (dd.ex _ _ hlnc hn1) hii (by omega) hl3 (by omega) hn3 fun a t M8 h1 h2 h3 => h a t M8 h1 h2 (((hx.trans hx4).trans dd).trans h3)
theorem r__law_data : ∀ ds M Q E, sp_data2 ds M Q E → b__law_data sp_take sp_name2 (sp_formula2 4) (En Q) (startD 14 ds) M := by
  rintro ds M Q E ⟨p, c, rfl, dw0, h⟩
  refine ⟨by show 10 ≤ sizeLine; decide, fun l0 hl0 => ?_⟩
  have x0 : Ext M (updM M l0 (.lst ten)) := Ext.new hl0
  have l0m : updM M l0 (.lst ten) l0 = some (.lst ten) := updM_same
  have hl0c := dw0.cne hl0
  have dwa := dw0.go (.ofExt x0)
  refine ⟨p, c, 10, rfl, by decide, dwa, fun r1 hr1 M1 d1 => ?_⟩
  have dw1 := dwa.go d1
  have a1 := (Dr.ofExt x0).trans d1
  obtain ⟨w, hw, hw5⟩ := ten_at r1 hr1
  refine .inl ⟨ten, _, .int w, d1.ex _ _ hl0c l0m, rfl, atI_nat hw, ?_⟩
  refine ⟨p, c, 4, rfl, by decide, dw1, fun r2 hr2 M2 d2 => ?_⟩
  have dw2 := dw1.go d2
  have a2 := a1.trans d2
  obtain ⟨m, hm, hm1, hm4⟩ := most_le w hw5
  have dp := den_pos w
  have dl : denZ w ≤ 5 := by unfold denZ; split <;> omega
  refine ⟨⟨dp, by have : denZ w < 1073741824 := by omega
                  exact this⟩, ?_⟩
  exact r_data_mid (mz := mostZ w) hm hm4 (by omega) dw2 fun a t M8 h1 h2 h3 => h a t M8 h1 h2 (a2.trans h3)
end Ry

set_option Elab.async false
set_option linter.all false
set_option autoImplicit false
set_option maxRecDepth 100000
set_option maxHeartbeats 4000000
/-! readings for k86: spoilt data -/
namespace Ry
open PySem PySem.Spec PyProof.Rows L2 DH Bd Rd
local macro_rules | `(tactic| walk_at "if") => `(tactic| first | (refine ⟨fun _ => ?_, fun hc => absurd hc (by decide)⟩) | (refine ⟨fun hc => absurd hc (by decide), fun _ => ?_⟩))
theorem DaY.go {p c a : Addr} {M M' : Mm} {t : TY} (h : DaY p c M a t) (d : Dr c M M') : DaY p c M' a t := by
  obtain ⟨a1, a2, a3, a4, h0, h1, h2, h3, h4, n0, n1, n2, n3, n4, r⟩ := h.ex
  exact ⟨a1, a2, a3, a4, d.ex _ _ n0 h0, d.ex _ _ n1 h1, d.ex _ _ n2 h2, d.ex _ _ n3 h3, d.ex _ _ n4 h4, n0, n1, n2, n3, n4, r⟩
theorem dw_upd {p c q : Addr} {M : Mm} {o : MO} (d : Dw p c M) (h1 : q ≠ p) (h2 : q ≠ c) : Dw p c (updM M q o) := by
  obtain ⟨ds, hd, r⟩ := d.nums
  obtain ⟨k, hk⟩ := d.cur
  exact ⟨d.ne, ⟨ds, by rw [updM_ne (Ne.symm h1)]; exact hd, r⟩, ⟨k, by rw [updM_ne (Ne.symm h2)]; exact hk⟩⟩
theorem mem_set {α : Type} {l : List α} {j : Nat} {x : α} {P : α → Prop} (h : ∀ y ∈ l, P y) (hx : P x) : ∀ y ∈ l.set j x, P y := fun y hy => by
  rcases List.mem_or_eq_of_mem_set hy with hy | rfl
  · exact h y hy
  · exact hx
/-- the data and what is spoilt in it -/
structure DaS (p c : Addr) (M : Mm) (a a1 a2 a3 a4 : Addr) (t : TY) : Prop where
  h0 : M a = some (.lst [.int t.w, .ref a1, .ref a2, .ref a3, .ref a4])
  h1 : M a1 = some (.lst (t.ins.map .str))
  h2 : M a2 = some (.lst t.needs)
  h3 : M a3 = some (.lst (letD t.lets))
  h4 : M a4 = some (.lst (outI t.outs))
  ne : a ≠ c ∧ a1 ≠ c ∧ a2 ≠ c ∧ a3 ≠ c ∧ a4 ≠ c ∧ a1 ≠ a2 ∧ a1 ≠ a3 ∧ a1 ≠ a4 ∧ a2 ≠ a3 ∧ a2 ≠ a4 ∧ a3 ≠ a4 ∧ a ≠ a1 ∧ a ≠ a2 ∧ a ≠ a3 ∧ a ≠ a4 ∧ a1 ≠ p ∧ a2 ≠ p ∧ a3 ≠ p ∧ a4 ≠ p
  dw : Dw p c M
  ok : t.Ok2
theorem DaS.da {p c a a1 a2 a3 a4 : Addr} {M : Mm} {t : TY} (h : DaS p c M a a1 a2 a3 a4 t) : DaY p c M a t := ⟨a1, a2, a3, a4, h.h0, h.h1, h.h2, h.h3, h.h4, h.ne⟩
theorem set_ins {p c a a1 a2 a3 a4 : Addr} {M : Mm} {t : TY} (h : DaS p c M a a1 a2 a3 a4 t) (j : Nat) {s : Str} (hs : GS s) : ∃ t', DaS p c (updM M a1 (.lst ((t.ins.map .str).set j (.str s)))) a a1 a2 a3 a4 t' := by
  have ne := h.ne
  obtain ⟨n0, n1, n2, n3, n4, n12, n13, n14, n23, n24, n34, m1, m2, m3, m4, q1, q2, q3, q4⟩ := h.ne
  have o := h.ok
  refine ⟨{ t with ins := t.ins.set j s }, ?_, ?_, ?_, ?_, ?_, ne, dw_upd h.dw q1 n1, ⟨o.w9, by show (t.ins.set j s).length ≤ 70; rw [List.length_set]; exact o.ni, o.nn, o.nl, o.no, mem_set o.si hs, o.fn, o.fl, o.fo⟩⟩
  · rw [updM_ne m1]; exact h.h0
  · rw [updM_same]; rw [List.map_set]
  · rw [updM_ne (Ne.symm n12)]; exact h.h2
  · rw [updM_ne (Ne.symm n13)]; exact h.h3
  · rw [updM_ne (Ne.symm n14)]; exact h.h4
theorem set_needs {p c a a1 a2 a3 a4 : Addr} {M : Mm} {t : TY} (h : DaS p c M a a1 a2 a3 a4 t) (j : Nat) {d : D} (hs : FitD 12 d) : ∃ t', DaS p c (updM M a2 (.lst (t.needs.set j d))) a a1 a2 a3 a4 t' := by
  have ne := h.ne
  obtain ⟨n0, n1, n2, n3, n4, n12, n13, n14, n23, n24, n34, m1, m2, m3, m4, q1, q2, q3, q4⟩ := h.ne
  have o := h.ok
  refine ⟨{ t with needs := t.needs.set j d }, ?_, ?_, ?_, ?_, ?_, ne, dw_upd h.dw q2 n2, ⟨o.w9, o.ni, by show (t.needs.set j d).length ≤ 70; rw [List.length_set]; exact o.nn, o.nl, o.no, o.si, mem_set o.fn hs, o.fl, o.fo⟩⟩
  · rw [updM_ne m2]; exact h.h0
  · rw [updM_ne n12]; exact h.h1
  · rw [updM_same]
  · rw [updM_ne (Ne.symm n23)]; exact h.h3
  · rw [updM_ne (Ne.symm n24)]; exact h.h4
theorem set_lets {p c a a1 a2 a3 a4 : Addr} {M : Mm} {t : TY} (h : DaS p c M a a1 a2 a3 a4 t) (j : Nat) {s : Str} {d : D} (hs : GS s) (hd : FitD 12 d) : ∃ t', DaS p c (updM M a3 (.lst ((letD t.lets).set j (.tup [.str s, d])))) a a1 a2 a3 a4 t' := by
  have ne := h.ne
  obtain ⟨n0, n1, n2, n3, n4, n12, n13, n14, n23, n24, n34, m1, m2, m3, m4, q1, q2, q3, q4⟩ := h.ne
  have o := h.ok
  refine ⟨{ t with lets := t.lets.set j (s, d) }, ?_, ?_, ?_, ?_, ?_, ne, dw_upd h.dw q3 n3, ⟨o.w9, o.ni, o.nn, by show (t.lets.set j (s, d)).length ≤ 70; rw [List.length_set]; exact o.nl, o.no, o.si, o.fn, mem_set o.fl ⟨hs, hd⟩, o.fo⟩⟩
  · rw [updM_ne m3]; exact h.h0
  · rw [updM_ne n13]; exact h.h1
  · rw [updM_ne n23]; exact h.h2
  · rw [updM_same]; unfold letD; rw [List.map_set]
  · rw [updM_ne (Ne.symm n34)]; exact h.h4
theorem set_outs {p c a a1 a2 a3 a4 : Addr} {M : Mm} {t : TY} (h : DaS p c M a a1 a2 a3 a4 t) (j : Nat) {r : Int} {d : D} (hd : FitD 12 d) : ∃ t', DaS p c (updM M a4 (.lst ((outI t.outs).set j (.tup [.int r, d])))) a a1 a2 a3 a4 t' := by
  have ne := h.ne
  obtain ⟨n0, n1, n2, n3, n4, n12, n13, n14, n23, n24, n34, m1, m2, m3, m4, q1, q2, q3, q4⟩ := h.ne
  have o := h.ok
  refine ⟨{ t with outs := t.outs.set j (r, d) }, ?_, ?_, ?_, ?_, ?_, ne, dw_upd h.dw q4 n4, ⟨o.w9, o.ni, o.nn, o.nl, by show (t.outs.set j (r, d)).length ≤ 70; rw [List.length_set]; exact o.no, o.si, o.fn, o.fl, mem_set o.fo hd⟩⟩
  · rw [updM_ne m4]; exact h.h0
  · rw [updM_ne n14]; exact h.h1
  · rw [updM_ne n24]; exact h.h2
  · rw [updM_ne n34]; exact h.h3
  · rw [updM_same]; unfold outI; rw [List.map_set]
end Ry

set_option Elab.async false
set_option linter.all false
set_option autoImplicit false
set_option maxRecDepth 100000
set_option maxHeartbeats 4000000
/-! readings for k86: spoilt data, the loop -/
namespace Ry
open PySem PySem.Spec PyProof.Rows L2 DH Bd Rd
local macro_rules | `(tactic| walk_at "if") => `(tactic| first | (refine ⟨fun _ => ?_, fun hc => absurd hc (by decide)⟩) | (refine ⟨fun hc => absurd hc (by decide), fun _ => ?_⟩))
theorem ix_mod {n pl : Nat} (h : 0 < n) : ixN n ((pl : Int) % (n : Int)) = some (pl % n) := by
  have h1 : (pl : Int) % (n : Int) = ((pl % n : Nat) : Int) := by push_cast; rfl
  have h2 := Nat.mod_lt pl h
  rw [h1]; unfold ixN
  rw [if_pos (by omega), if_pos (by omega)]
  exact congrArg some (by omega)
theorem at_mod {α : Type} {l : List α} {pl : Nat} (h : 0 < l.length) : ∃ x, x ∈ l ∧ atI l ((pl : Int) % (l.length : Int)) = some x ∧ l[pl % l.length]? = some x := by
  have h2 := Nat.mod_lt pl h
  refine ⟨l[pl % l.length], List.getElem_mem h2, ?_, getE h2⟩
  unfold atI
  rw [ix_mod h]
  exact getE h2
def b_spoil_turn : DS := dSeq (dAsg (dOp oIx (dVar 2) (dVar 10)) (.nm 4)) (dIf (dtAnd (dtB (dOp oEq (dOp oSub (dVar 10) (dC (.int 1))) (dOp oMod (dVar 9) (dC (.int 4))))) (dtB (dOp oGt (dL oLen (dCons (dVar 4) (dNil))) (dC (.int 0))))) (dSeq (dIf (dtB (dOp oEq (dVar 10) (dC (.int 1)))) (dSetIx (dVar 7) (dVar 4) (dOp oMod (dVar 8) (dL oLen (dCons (dVar 4) (dNil))))) (dNext)) (dSeq (dIf (dtB (dOp oEq (dVar 10) (dC (.int 2)))) (dSetIx (dVar 5) (dVar 4) (dOp oMod (dVar 8) (dL oLen (dCons (dVar 4) (dNil))))) (dNext)) (dSeq (dIf (dtAnd (dtB (dOp oEq (dVar 10) (dC (.int 3)))) (dtAnd (dtB (dOp oEq (dVar 9) (dC (.int 2)))) (dtB (dOp oEq (dOp oMod (dVar 8) (dC (.int 2))) (dC (.int 0)))))) (dSetIx (dTup (dCons (dVar 7) (dCons (dOp oIx (dOp oIx (dVar 4) (dOp oMod (dVar 8) (dL oLen (dCons (dVar 4) (dNil))))) (dC (.int 1))) (dNil)))) (dVar 4) (dOp oMod (dVar 8) (dL oLen (dCons (dVar 4) (dNil))))) (dNext)) (dSeq (dIf (dtAnd (dtB (dOp oEq (dVar 10) (dC (.int 3)))) (dtB (dOp oEq (dOp oMod (dVar 8) (dC (.int 2))) (dC (.int 1))))) (dSetIx (dTup (dCons (dOp oIx (dOp oIx (dVar 4) (dOp oMod (dVar 8) (dL oLen (dCons (dVar 4) (dNil))))) (dC (.int 0))) (dCons (dVar 5) (dNil)))) (dVar 4) (dOp oMod (dVar 8) (dL oLen (dCons (dVar 4) (dNil))))) (dNext)) (dIf (dtB (dOp oEq (dVar 10) (dC (.int 4)))) (dSetIx (dTup (dCons (dOp oIx (dOp oIx (dVar 4) (dOp oMod (dVar 8) (dL oLen (dCons (dVar 4) (dNil))))) (dC (.int 0))) (dCons (dVar 5) (dNil)))) (dVar 4) (dOp oMod (dVar 8) (dL oLen (dCons (dVar 4) (dNil))))) (dNext)))))) (dNext))
def b_spoil_loop : DS := dFor (dRng2 (dCons (dC (.int 1)) (dCons (dC (.int 5)) (dNil)))) (.nm 10) b_spoil_turn
theorem r_turn1 {D' : DEnds} {p c a a1 a2 a3 a4 kn na : Addr} {M : Mm} {t : TY} {nm : Str} {od : D} {pl kd : Nat} {x : Option D} (h : DaS p c M a a1 a2 a3 a4 t) (hnm : GS nm) (hod : FitD 12 od)
    (k : ∀ M' t' x', DaS p c M' a a1 a2 a3 a4 t' → D'.nx [some (.ref p), some (.ref c), some (.ref a), some (.ref kn), x', some od, some (.ref na), some (.str nm), some (.int pl), some (.int kd), some (.int (1 + ((0 : Nat) : Int)))] M') :
    b_spoil_turn D' [some (.ref p), some (.ref c), some (.ref a), some (.ref kn), x, some od, some (.ref na), some (.str nm), some (.int pl), some (.int kd), some (.int (1 + ((0 : Nat) : Int)))] M := by
  refine .inl ⟨_, _, .ref a1, h.h0, rfl, rfl, ?_⟩
  refine ⟨(by decide : (0 : Int) < 4), fun _ => ?_, fun _ => ?_⟩
  rotate_left
  · walk_at "if"
    exact k _ _ _ h
  refine .inl ⟨_, h.h1, fun hb => ?_, fun hb => ?_⟩
  rotate_left
  · exact k _ _ _ h
  have hb : 0 < (t.ins.map D.str).length := by have := of_decide_eq_true hb; omega
  repeat walk_at "if"
  refine .inl ⟨_, h.h1, ⟨by omega, .inl ⟨_, _, _, h.h1, rfl, ix_mod hb, ?_⟩⟩⟩
  obtain ⟨t', ht'⟩ := set_ins h (pl % (t.ins.map D.str).length) hnm
  repeat walk_at "if"
  exact k _ _ _ ht'
theorem r_turn2 {D' : DEnds} {p c a a1 a2 a3 a4 kn na : Addr} {M : Mm} {t : TY} {nm : Str} {od : D} {pl kd : Nat} {x : Option D} (h : DaS p c M a a1 a2 a3 a4 t) (hnm : GS nm) (hod : FitD 12 od)
    (k : ∀ M' t' x', DaS p c M' a a1 a2 a3 a4 t' → D'.nx [some (.ref p), some (.ref c), some (.ref a), some (.ref kn), x', some od, some (.ref na), some (.str nm), some (.int pl), some (.int kd), some (.int (1 + ((1 : Nat) : Int)))] M') :
    b_spoil_turn D' [some (.ref p), some (.ref c), some (.ref a), some (.ref kn), x, some od, some (.ref na), some (.str nm), some (.int pl), some (.int kd), some (.int (1 + ((1 : Nat) : Int)))] M := by
  refine .inl ⟨_, _, .ref a2, h.h0, rfl, rfl, ?_⟩
  refine ⟨(by decide : (0 : Int) < 4), fun _ => ?_, fun _ => ?_⟩
  rotate_left
  · walk_at "if"
    exact k _ _ _ h
  refine .inl ⟨_, h.h2, fun hb => ?_, fun hb => ?_⟩
  rotate_left
  · exact k _ _ _ h
  have hb : 0 < t.needs.length := by have := of_decide_eq_true hb; omega
  repeat walk_at "if"
  refine .inl ⟨_, h.h2, ⟨by omega, .inl ⟨_, _, _, h.h2, rfl, ix_mod hb, ?_⟩⟩⟩
  obtain ⟨t', ht'⟩ := set_needs h (pl % t.needs.length) hod
  repeat walk_at "if"
  exact k _ _ _ ht'
theorem r_turn4 {D' : DEnds} {p c a a1 a2 a3 a4 kn na : Addr} {M : Mm} {t : TY} {nm : Str} {od : D} {pl kd : Nat} {x : Option D} (h : DaS p c M a a1 a2 a3 a4 t) (hnm : GS nm) (hod : FitD 12 od)
    (k : ∀ M' t' x', DaS p c M' a a1 a2 a3 a4 t' → D'.nx [some (.ref p), some (.ref c), some (.ref a), some (.ref kn), x', some od, some (.ref na), some (.str nm), some (.int pl), some (.int kd), some (.int (1 + ((3 : Nat) : Int)))] M') :
    b_spoil_turn D' [some (.ref p), some (.ref c), some (.ref a), some (.ref kn), x, some od, some (.ref na), some (.str nm), some (.int pl), some (.int kd), some (.int (1 + ((3 : Nat) : Int)))] M := by
  refine .inl ⟨_, _, .ref a4, h.h0, rfl, rfl, ?_⟩
  refine ⟨(by decide : (0 : Int) < 4), fun _ => ?_, fun _ => ?_⟩
  rotate_left
  · walk_at "if"
    exact k _ _ _ h
  refine .inl ⟨_, h.h4, fun hb => ?_, fun hb => ?_⟩
  rotate_left
  · exact k _ _ _ h
  have hb : 0 < (outI t.outs).length := by have := of_decide_eq_true hb; omega
  repeat walk_at "if"
  obtain ⟨y, hy, hat, _⟩ := at_mod (pl := pl) hb
  obtain ⟨⟨r, d0⟩, hr, rfl⟩ := List.mem_map.mp hy
  refine .inl ⟨_, h.h4, ⟨by omega, .inl ⟨_, _, _, h.h4, rfl, hat, ?_⟩⟩⟩
  refine ⟨_, rfl, ?_⟩
  refine ⟨by show 2 ≤ sizeLine; decide, .inl ⟨_, h.h4, ⟨by omega, .inl ⟨_, _, _, h.h4, rfl, ix_mod hb, ?_⟩⟩⟩⟩
  obtain ⟨t', ht'⟩ := set_outs h (pl % (outI t.outs).length) (r := r) hod
  exact k _ _ _ ht'
def b_turn3_rest : DS := dSeq (dIf (dtAnd (dtB (dOp oEq (dVar 10) (dC (.int 3)))) (dtB (dOp oEq (dOp oMod (dVar 8) (dC (.int 2))) (dC (.int 1))))) (dSetIx (dTup (dCons (dOp oIx (dOp oIx (dVar 4) (dOp oMod (dVar 8) (dL oLen (dCons (dVar 4) (dNil))))) (dC (.int 0))) (dCons (dVar 5) (dNil)))) (dVar 4) (dOp oMod (dVar 8) (dL oLen (dCons (dVar 4) (dNil))))) (dNext)) (dIf (dtB (dOp oEq (dVar 10) (dC (.int 4)))) (dSetIx (dTup (dCons (dOp oIx (dOp oIx (dVar 4) (dOp oMod (dVar 8) (dL oLen (dCons (dVar 4) (dNil))))) (dC (.int 0))) (dCons (dVar 5) (dNil)))) (dVar 4) (dOp oMod (dVar 8) (dL oLen (dCons (dVar 4) (dNil))))) (dNext))
theorem r_turn3_rest {D' : DEnds} {p c a a1 a2 a3 a4 kn na : Addr} {M : Mm} {t : TY} {nm : Str} {od : D} {pl kd : Nat} (h : DaS p c M a a1 a2 a3 a4 t) (hod : FitD 12 od) (hb : 0 < (letD t.lets).length)
    (k : ∀ M' t' x', DaS p c M' a a1 a2 a3 a4 t' → D'.nx [some (.ref p), some (.ref c), some (.ref a), some (.ref kn), x', some od, some (.ref na), some (.str nm), some (.int pl), some (.int kd), some (.int (1 + ((2 : Nat) : Int)))] M') :
    b_turn3_rest D' [some (.ref p), some (.ref c), some (.ref a), some (.ref kn), some (.ref a3), some od, some (.ref na), some (.str nm), some (.int pl), some (.int kd), some (.int (1 + ((2 : Nat) : Int)))] M := by
  repeat walk_at "if"
  refine ⟨(by decide : (0 : Int) < 2), fun _ => ?_, fun _ => ?_⟩
  · obtain ⟨y, hy, hat, hat2⟩ := at_mod (pl := pl) hb
    obtain ⟨⟨r, d0⟩, hr, rfl⟩ := List.mem_map.mp hy
    refine .inl ⟨_, h.h3, ⟨by omega, .inl ⟨_, _, _, h.h3, rfl, hat, ?_⟩⟩⟩
    refine ⟨_, rfl, ?_⟩
    refine ⟨by show 2 ≤ sizeLine; decide, .inl ⟨_, h.h3, ⟨by omega, .inl ⟨_, _, _, h.h3, rfl, ix_mod hb, ?_⟩⟩⟩⟩
    obtain ⟨t', ht'⟩ := set_lets h (pl % (letD t.lets).length) (h.ok.fl _ hr).1 hod
    repeat walk_at "if"
    exact k _ _ _ ht'
  · repeat walk_at "if"
    exact k _ _ _ h
theorem r_turn3 {D' : DEnds} {p c a a1 a2 a3 a4 kn na : Addr} {M : Mm} {t : TY} {nm : Str} {od : D} {pl kd : Nat} {x : Option D} (h : DaS p c M a a1 a2 a3 a4 t) (hnm : GS nm) (hod : FitD 12 od)
    (k : ∀ M' t' x', DaS p c M' a a1 a2 a3 a4 t' → D'.nx [some (.ref p), some (.ref c), some (.ref a), some (.ref kn), x', some od, some (.ref na), some (.str nm), some (.int pl), some (.int kd), some (.int (1 + ((2 : Nat) : Int)))] M') :
    b_spoil_turn D' [some (.ref p), some (.ref c), some (.ref a), some (.ref kn), x, some od, some (.ref na), some (.str nm), some (.int pl), some (.int kd), some (.int (1 + ((2 : Nat) : Int)))] M := by
  refine .inl ⟨_, _, .ref a3, h.h0, rfl, rfl, ?_⟩
  refine ⟨(by decide : (0 : Int) < 4), fun _ => ?_, fun _ => ?_⟩
  rotate_left
  · walk_at "if"
    exact k _ _ _ h
  refine .inl ⟨_, h.h3, fun hb => ?_, fun hb => ?_⟩
  rotate_left
  · exact k _ _ _ h
  have hb : 0 < (letD t.lets).length := by have := of_decide_eq_true hb; omega
  repeat walk_at "if"
  have skip := r_turn3_rest (D' := D') (nm := nm) (kn := kn) (na := na) (kd := kd) (pl := pl) h hod hb k
  refine ⟨fun _ => ?_, fun _ => ?_⟩
  rotate_left
  · walk_at "if"
    exact skip
  refine ⟨(by decide : (0 : Int) < 2), fun _ => ?_, fun _ => ?_⟩
  rotate_left
  · exact skip
  obtain ⟨y, hy, hat, hat2⟩ := at_mod (pl := pl) hb
  obtain ⟨⟨r, d0⟩, hr, rfl⟩ := List.mem_map.mp hy
  refine .inl ⟨_, h.h3, ⟨by omega, .inl ⟨_, _, _, h.h3, rfl, hat, ?_⟩⟩⟩
  refine ⟨_, rfl, ?_⟩
  refine ⟨by show 2 ≤ sizeLine; decide, .inl ⟨_, h.h3, ⟨by omega, .inl ⟨_, _, _, h.h3, rfl, ix_mod hb, ?_⟩⟩⟩⟩
  obtain ⟨t', ht'⟩ := set_lets h (pl % (letD t.lets).length) hnm (h.ok.fl _ hr).2
  have e := ht'.h3
  rw [updM_same] at e
  have e : (letD t.lets).set (pl % (letD t.lets).length) (.tup [.str nm, d0]) = letD t'.lets := by injection e with e; injection e
  have hb' : 0 < (letD t'.lets).length := by rw [← e, List.length_set]; exact hb
  exact r_turn3_rest ht' hod hb' k
end Ry

set_option Elab.async false
set_option linter.all false
set_option autoImplicit false
set_option maxRecDepth 100000
set_option maxHeartbeats 4000000
/-! readings for k86: spoilt data -/
namespace Ry
open PySem PySem.Spec PyProof.Rows L2 DH Bd Rd
local macro_rules | `(tactic| walk_at "if") => `(tactic| first | (refine ⟨fun _ => ?_, fun hc => absurd hc (by decide)⟩) | (refine ⟨fun hc => absurd hc (by decide), fun _ => ?_⟩))
theorem r_spoil_loop {D' : DQ} {p c a a1 a2 a3 a4 kn na : Addr} {M : Mm} {t : TY} {nm : Str} {od : D} {pl kd : Nat} (h : DaS p c M a a1 a2 a3 a4 t) (hnm : GS nm) (hod : FitD 12 od)
    (k : ∀ M' t', DaS p c M' a a1 a2 a3 a4 t' → D' .non M') :
    b_spoil_loop (En D') [some (.ref p), some (.ref c), some (.ref a), some (.ref kn), none, some od, some (.ref na), some (.str nm), some (.int pl), some (.int kd), none] M := by
  refine ⟨by decide, ?_⟩
  refine ⟨fun i E M' => (∃ t', DaS p c M' a a1 a2 a3 a4 t') ∧ ∃ x y : Option D, E = [some (.ref p), some (.ref c), some (.ref a), some (.ref kn), x, some od, some (.ref na), some (.str nm), some (.int pl), some (.int kd), y], ⟨⟨t, h⟩, none, none, rfl⟩, fun _ _ _ _ => trivial, ?_, ?_⟩
  · rintro i E M' d hd ⟨⟨t', h'⟩, x, y, rfl⟩
    obtain ⟨hi, rfl⟩ := rng_at hd
    have hi : i < 4 := hi
    match i, hi with
    | 0, _ => exact r_turn1 h' hnm hod fun M2 t2 x2 h2 => ⟨⟨t2, h2⟩, _, _, rfl⟩
    | 1, _ => exact r_turn2 h' hnm hod fun M2 t2 x2 h2 => ⟨⟨t2, h2⟩, _, _, rfl⟩
    | 2, _ => exact r_turn3 h' hnm hod fun M2 t2 x2 h2 => ⟨⟨t2, h2⟩, _, _, rfl⟩
    | 3, _ => exact r_turn4 h' hnm hod fun M2 t2 x2 h2 => ⟨⟨t2, h2⟩, _, _, rfl⟩
  · rintro E M' ⟨⟨t', h'⟩, x, y, rfl⟩
    exact k _ _ h'
def sp_spoil : DSp := fun ds M Q _ => ∃ (p c a a1 a2 a3 a4 : Addr) (t : TY), ds = [.ref p, .ref c, .ref a] ∧ DaS p c M a a1 a2 a3 a4 t ∧ ∀ M' t', DaS p c M' a a1 a2 a3 a4 t' → Q .non M'
theorem DaS.go {p c a a1 a2 a3 a4 : Addr} {M M' : Mm} {t : TY} (h : DaS p c M a a1 a2 a3 a4 t) (d : Dr c M M') : DaS p c M' a a1 a2 a3 a4 t := by
  have ne := h.ne
  obtain ⟨n0, n1, n2, n3, n4, r⟩ := h.ne
  exact ⟨d.ex _ _ n0 h.h0, d.ex _ _ n1 h.h1, d.ex _ _ n2 h.h2, d.ex _ _ n3 h.h3, d.ex _ _ n4 h.h4, ne, h.dw.go d, h.ok⟩
def eight : List Str := ["Ab", "a b", "1a", "abcdefg", "abcdef", "", "pick", "x_y"]
theorem eight_ok : ∀ s ∈ eight, GS s := by
  intro s hs
  unfold eight at hs
  simp only [List.mem_cons, List.not_mem_nil, or_false] at hs
  rcases hs with rfl | rfl | rfl | rfl | rfl | rfl | rfl | rfl <;> exact ⟨by unfold AN; decide +kernel, by decide +kernel⟩
theorem cut_names (l : List Str) (lo hi : Option Int) (h : ∀ s ∈ l, GS s) : ∃ l2 : List Str, cutL D (l.map .str) lo hi = l2.map .str ∧ (∀ s ∈ l2, GS s) ∧ l2.length ≤ l.length := by
  unfold cutL
  refine ⟨(l.drop (HT.sIx (l.map D.str).length 0 lo)).take (HT.sIx (l.map D.str).length (l.map D.str).length hi - HT.sIx (l.map D.str).length 0 lo), ?_, fun s hs => h s (List.mem_of_mem_drop (List.mem_of_mem_take hs)), ?_⟩
  · rw [List.map_take, List.map_drop]
  · rw [List.length_take, List.length_drop]; omega
theorem r__law_spoil : ∀ ds M Q E, sp_spoil ds M Q E → b__law_spoil sp_odd sp_take (En Q) (startD 11 ds) M := by
  rintro ds M Q E ⟨p, c, a, a1, a2, a3, a4, t, rfl, h, k⟩
  refine .inl ⟨_, _, .ref a1, h.h0, rfl, rfl, ?_⟩
  refine ⟨_, h.h1, fun k0 hk0 => ?_⟩
  have x0 : Ext M (updM M k0 (.lst (t.ins.map .str))) := Ext.new hk0
  have k0m : updM M k0 (.lst (t.ins.map .str)) k0 = some (.lst (t.ins.map .str)) := updM_same
  have hk0c := h.dw.cne hk0
  have h1 := h.go (.ofExt x0)
  generalize updM M k0 (.lst (t.ins.map .str)) = M1 at x0 k0m h1 ⊢
  refine .inl ⟨_, _, .ref a3, h1.h0, rfl, rfl, ?_⟩
  refine ⟨_, h1.h3, ?_⟩
  intro q hq
  refine ⟨fun i acc M' => Ext M1 M' ∧ M' q = some (.lst acc) ∧ acc = ((t.lets.take i).map Prod.fst).map .str, ⟨Ext.new hq, updM_same, by simp⟩, fun i acc M' hI => ?_, ?_, ?_⟩
  · exact hI.1 _ _ h1.h3
  · rintro i acc M' d hd ⟨hx, hm, rfl⟩
    unfold letD at hd
    rw [List.getElem?_map] at hd
    obtain ⟨⟨s, f⟩, he, rfl⟩ := Option.map_eq_some_iff.mp hd
    have hlt : i < t.lets.length := by
      rcases Nat.lt_or_ge i t.lets.length with h | h
      · exact h
      · rw [List.getElem?_eq_none h] at he; cases he
    have := h.ok.nl
    refine ⟨fun _ => ⟨_, rfl, hm, by simp; exact tolist (by omega), hx.mut hq, updM_same, ?_⟩, fun hc => absurd hc (by decide)⟩
    rw [List.take_add_one, he]; simp
  rintro acc M' ⟨hx, hm, rfl⟩
  have lt : (letD t.lets).length = t.lets.length := by unfold letD; rw [List.length_map]
  rw [lt, List.take_length] at hm
  have b1 := h.ok.ni
  have b3 := h.ok.nl
  have h2 := h1.go (.ofExt hx)
  have k02 := hx _ _ k0m
  refine ⟨_, _, k02, hm, by rw [List.length_map, List.length_map, List.length_map]; exact Nat.le_of_lt (tolist (by omega)), fun kn hkn => ?_⟩
  have hknc := h2.dw.cne hkn
  have e0 : t.ins.map D.str ++ ((t.lets.map Prod.fst).map D.str) = (t.ins ++ t.lets.map Prod.fst).map .str := by rw [List.map_append]
  have e1 : updM M' kn (.lst (t.ins.map D.str ++ ((t.lets.map Prod.fst).map D.str))) = updM M' kn (.lst ((t.ins ++ t.lets.map Prod.fst).map .str)) := by rw [e0]
  rw [e1]
  have knm : updM M' kn (.lst ((t.ins ++ t.lets.map Prod.fst).map .str)) kn = some (.lst ((t.ins ++ t.lets.map Prod.fst).map .str)) := updM_same
  have h3 := h2.go (.ofExt (Ext.new (o := .lst ((t.ins ++ t.lets.map Prod.fst).map .str)) hkn))
  generalize updM M' kn (.lst ((t.ins ++ t.lets.map Prod.fst).map .str)) = M3 at knm h3 ⊢
  have names_ok : ∀ s ∈ t.ins ++ t.lets.map Prod.fst, GS s := fun s hs => by
    rcases List.mem_append.mp hs with hs | hs
    · exact h.ok.si s hs
    · obtain ⟨e, he, rfl⟩ := List.mem_map.mp hs
      exact (h.ok.fl e he).1
  refine ⟨p, c, 19, rfl, by decide, h3.dw, fun r1 hr1 M4 d4 => ?_⟩
  have h4 := h3.go d4
  have kn4 := d4.ex _ _ hknc knm
  have w9 := h.ok.w9
  refine .inl ⟨_, _, .int _, h4.h0, rfl, rfl, ?_⟩
  have ew : ∃ w' : Nat, w' ≤ 9 ∧ (if (1 : Int) > (t.w : Int) then (1 : Int) else (t.w : Int)) = (w' : Int) := by
    by_cases hh : (1 : Int) > (t.w : Int)
    · exact ⟨1, by decide, by rw [if_pos hh]; rfl⟩
    · exact ⟨t.w, w9, by rw [if_neg hh]⟩
  obtain ⟨w', hw', ew⟩ := ew
  refine ⟨r1, w', kn, t.ins ++ t.lets.map Prod.fst, ?_, hr1, hw', kn4, fun s hs => an_ok (names_ok s hs).1, fun od hod M5 x5 => ?_⟩
  · show [_, _, D.int (if (1 : Int) > (t.w : Int) then (1 : Int) else (t.w : Int))] = _
    rw [ew]
  have h5 := h4.go (.ofExt x5)
  have kn5 := x5 _ _ kn4
  refine ⟨by show 8 ≤ sizeLine; decide, fun e8 he8 => ?_⟩
  have x6 : Ext M5 (updM M5 e8 (.lst (eight.map .str))) := Ext.new he8
  have e8m : updM M5 e8 (.lst (eight.map .str)) e8 = some (.lst (eight.map .str)) := updM_same
  have h6 := h5.go (.ofExt x6)
  have kn6 := x6 _ _ kn5
  refine ⟨_, kn6, fun k2 hk2 => ?_⟩
  obtain ⟨n2, hn2, g2, l2⟩ := cut_names (t.ins ++ t.lets.map Prod.fst) none (some 2) names_ok
  rw [show cutL D ((t.ins ++ t.lets.map Prod.fst).map D.str) none (some 2) = n2.map .str from hn2]
  have l2 : n2.length ≤ 140 := by rw [List.length_append, List.length_map] at l2; omega
  have x7 := Ext.new (o := MO.lst (n2.map .str)) hk2
  have e87 := x7 _ _ e8m
  have h7 := h6.go (.ofExt x7)
  refine ⟨_, _, e87, updM_same, by rw [List.length_map, List.length_map]; exact Nat.le_of_lt (tolist (by show 8 + n2.length ≤ _; omega)), fun na hna => ?_⟩
  have e0 : eight.map D.str ++ n2.map D.str = (eight ++ n2).map .str := by rw [List.map_append]
  rw [e0]
  have hnac := h7.dw.cne hna
  have nam := updM_same (M := updM (updM M5 e8 (.lst (eight.map .str))) k2 (.lst (n2.map .str))) (a := na) (o := .lst ((eight ++ n2).map .str))
  have h8 := h7.go (.ofExt (Ext.new (o := MO.lst ((eight ++ n2).map .str)) hna))
  have ln : (eight ++ n2).length = 8 + n2.length := by rw [List.length_append]; rfl
  refine .inl ⟨_, nam, p, c, (eight ++ n2).length, ?_, by omega, h8.dw, fun r2 hr2 M9 d9 => ?_⟩
  · show [_, _, D.int (((((eight ++ n2).map D.str).length : Nat)) : Int)] = _
    rw [List.length_map]
  have h9 := h8.go d9
  refine .inl ⟨_, _, .str (eight ++ n2)[r2], d9.ex _ _ hnac nam, rfl, atI_nat (by rw [List.getElem?_map, getE hr2]; rfl), ?_⟩
  have gname : GS (eight ++ n2)[r2] := by
    rcases List.mem_append.mp (List.getElem_mem hr2) with hh | hh
    · exact eight_ok _ hh
    · exact g2 _ hh
  refine ⟨p, c, 60, rfl, by decide, h9.dw, fun r3 hr3 M10 d10 => ?_⟩
  have h10 := h9.go d10
  refine ⟨p, c, 5, rfl, by decide, h10.dw, fun r4 hr4 M11 d11 => ?_⟩
  exact r_spoil_loop (h10.go d11) gname hod k
end Ry

set_option Elab.async false
set_option linter.all false
set_option autoImplicit false
set_option maxRecDepth 100000
set_option maxHeartbeats 4000000
/-! readings for k86: what a text holds -/
namespace Ry
open PySem PySem.Spec PyProof.Rows L2 DH Bd Rd
local macro_rules | `(tactic| walk_at "if") => `(tactic| first | (refine ⟨fun _ => ?_, fun hc => absurd hc (by decide)⟩) | (refine ⟨fun hc => absurd hc (by decide), fun _ => ?_⟩))
theorem okt_ins {t : TY} (h : t.Ok2) : OkD 1 (.tup (t.ins.map .str)) := ok_tup fun d hd => by
  obtain ⟨s, hs, rfl⟩ := List.mem_map.mp hd
  exact ok_str (an_ok (h.si s hs).1) _
theorem okt_needs {t : TY} (h : t.Ok2) : OkD 13 (.tup t.needs) := ok_tup fun d hd => (h.fn d hd).ok
theorem okt_lets {t : TY} (h : t.Ok2) : OkD 14 (.tup (letD t.lets)) := ok_tup fun d hd => by
  obtain ⟨e, he, rfl⟩ := List.mem_map.mp hd
  exact (f2 (fit_str (an_ok (h.fl e he).1.1) _) (h.fl e he).2).ok
theorem okt_outs {t : TY} (h : t.Ok2) : OkD 14 (.tup (outI t.outs)) := ok_tup fun d hd => by
  obtain ⟨e, he, rfl⟩ := List.mem_map.mp hd
  exact (f2 (fit_int _ _) (h.fo e he)).ok
def sp_holds (cl : CF) (C : Addr) : DSp := fun ds M Q _ => ∃ (x a a1 a2 a3 a4 : Addr) (t : TY), ds = [.ref x, .ref a] ∧ TyM cl C M x t ∧ t.Ok2 ∧ M a = some (.lst [.int t.w, .ref a1, .ref a2, .ref a3, .ref a4]) ∧ M a1 = some (.lst (t.ins.map .str)) ∧ M a2 = some (.lst t.needs) ∧ M a3 = some (.lst (letD t.lets)) ∧ M a4 = some (.lst (outI t.outs)) ∧ RetV M Q (.bl true)
theorem r__law_holds (cl : CF) (C : Addr) : ∀ ds M Q E, sp_holds cl C ds M Q E → b__law_holds cl (En Q) (startD 4 ds) M := by
  rintro ds M Q E ⟨x, a, a1, a2, a3, a4, t, rfl, tx, ok, h0, h1, h2, h3, h4, k⟩
  refine ⟨_, _, _, _, rfl, tx.at_, tx.cl _ (by simp), rfl, ?_⟩
  walk_at "if"
  refine ⟨_, _, _, _, rfl, tx.at_, tx.cl _ (by simp), rfl, ?_⟩
  walk_at "if"
  refine ⟨_, _, _, _, rfl, tx.at_, tx.cl _ (by simp), rfl, ?_⟩
  refine .inl ⟨_, _, .int t.w, h0, rfl, rfl, ?_⟩
  refine ⟨fun hc => ?_, fun _ => ?_⟩
  · simp at hc
  refine ⟨_, _, _, _, rfl, tx.at_, tx.cl _ (by simp), rfl, ?_⟩
  refine ⟨_, _, _, _, rfl, tx.at_, tx.cl _ (by simp), rfl, ?_⟩
  refine ⟨_, _, _, _, rfl, tx.at_, tx.cl _ (by simp), rfl, ?_⟩
  refine ⟨_, _, _, _, rfl, tx.at_, tx.cl _ (by simp), rfl, ?_⟩
  refine ⟨by show 4 ≤ sizeLine; decide, fun q hq => ?_⟩
  have xq : Ext M (updM M q (.lst [.tup (t.ins.map .str), .tup t.needs, .tup (letD t.lets), .tup (outI t.outs)])) := Ext.new hq
  have hqm : updM M q (.lst [.tup (t.ins.map .str), .tup t.needs, .tup (letD t.lets), .tup (outI t.outs)]) q = some (.lst [.tup (t.ins.map .str), .tup t.needs, .tup (letD t.lets), .tup (outI t.outs)]) := updM_same
  refine ⟨_, hqm, ?_⟩
  generalize updM M q (.lst [.tup (t.ins.map .str), .tup t.needs, .tup (letD t.lets), .tup (outI t.outs)]) = M1 at xq hqm ⊢
  refine ⟨fun i E M' => M' = M1 ∧ ∃ y : Option D, E = [some (.ref x), some (.ref a), y, none], ⟨rfl, _, rfl⟩, ?_, ?_, ?_⟩
  · rintro i E M' ⟨rfl, _⟩
    exact hqm
  · rintro i E M' d hd ⟨rfl, y, rfl⟩
    have : ∃ ds, d = .tup ds := by
      match i with
      | 0 => exact ⟨_, (Option.some.inj hd).symm⟩
      | 1 => exact ⟨_, (Option.some.inj hd).symm⟩
      | 2 => exact ⟨_, (Option.some.inj hd).symm⟩
      | 3 => exact ⟨_, (Option.some.inj hd).symm⟩
      | _ + 4 => cases hd
    obtain ⟨ds, rfl⟩ := this
    refine ⟨fun hc => absurd hc (by decide), fun _ => ⟨rfl, _, rfl⟩⟩
  rintro E M' ⟨rfl, y, rfl⟩
  have tx1 := tx.ext xq
  refine ⟨_, _, _, _, rfl, tx1.at_, tx1.cl _ (by simp), rfl, ?_⟩
  refine ⟨_, _, _, _, rfl, tx1.at_, tx1.cl _ (by simp), rfl, ?_⟩
  have n3 := ok.nl
  have n4 := ok.no
  have lt : (letD t.lets).length = t.lets.length := by unfold letD; rw [List.length_map]
  refine ⟨by rw [lt, outI_len]; exact Nat.le_of_lt (tolist (by omega)), ?_⟩
  refine ⟨fun i E M2 => M2 = M' ∧ ∃ z : Option D, E = [some (.ref x), some (.ref a), y, z], ⟨rfl, _, rfl⟩, fun _ _ _ _ => trivial, ?_, ?_⟩
  · rintro i E M2 d hd ⟨rfl, z, rfl⟩
    have : ∃ u v, d = .tup [u, v] := by
      rcases List.mem_append.mp (List.mem_of_getElem? hd) with hm | hm
      · obtain ⟨e, he, rfl⟩ := List.mem_map.mp hm; exact ⟨_, _, rfl⟩
      · obtain ⟨e, he, rfl⟩ := List.mem_map.mp hm; exact ⟨_, _, rfl⟩
    obtain ⟨u, v, rfl⟩ := this
    walk_at "if"
    refine ⟨fun hc => absurd hc (by simp), fun _ => ⟨rfl, _, rfl⟩⟩
  rintro E M2 ⟨rfl, z, rfl⟩
  refine ⟨_, _, _, _, rfl, tx1.at_, tx1.cl _ (by simp), rfl, ?_⟩
  refine .inl ⟨_, _, .ref a1, xq _ _ h0, rfl, rfl, _, xq _ _ h1, ?_⟩
  refine ne_same (okt_ins ok) (by decide) ?_
  walk_at "if"
  refine ⟨_, _, _, _, rfl, tx1.at_, tx1.cl _ (by simp), rfl, ?_⟩
  refine .inl ⟨_, _, .ref a2, xq _ _ h0, rfl, rfl, _, xq _ _ h2, ?_⟩
  refine ne_same (okt_needs ok) (by decide) ?_
  walk_at "if"
  refine ⟨_, _, _, _, rfl, tx1.at_, tx1.cl _ (by simp), rfl, ?_⟩
  refine .inl ⟨_, _, .ref a3, xq _ _ h0, rfl, rfl, _, xq _ _ h3, ?_⟩
  refine eq_same (okt_lets ok) (by decide) ?_
  refine ⟨fun _ => ?_, fun hc => absurd hc (by decide)⟩
  refine ⟨_, _, _, _, rfl, tx1.at_, tx1.cl _ (by simp), rfl, ?_⟩
  refine .inl ⟨_, _, .ref a4, xq _ _ h0, rfl, rfl, _, xq _ _ h4, ?_⟩
  exact eq_same (okt_outs ok) (by decide) (k _ xq)
end Ry

set_option Elab.async false
set_option linter.all false
set_option autoImplicit false
set_option maxRecDepth 100000
set_option maxHeartbeats 4000000
/-! readings for k86: the law, its end -/
namespace Ry
open PySem PySem.Spec PyProof.Rows L2 DH Bd Rd
local macro_rules | `(tactic| walk_at "if") => `(tactic| first | (refine ⟨fun _ => ?_, fun hc => absurd hc (by decide)⟩) | (refine ⟨fun hc => absurd hc (by decide), fun _ => ?_⟩))
def b_lawT_tail (s__law_holds : DSp) : DS := dSeq (dFor (dIter (dVar 7)) (.nm 10) (dDrop (dApp (dVar 10) (dTup (dCons (dC (.str "z")) (dCons (dC (.int 0)) (dNil))))))) (dRet (dCall s__law_holds (dCons (dVar 9) (dCons (dVar 3) (dNil)))))
def b_lawT_rest (s__law_holds : DSp) : DS := dSeq (dIf (dtB (dOp oNe (dVar 7) (dLst (dCons (dOp oIx (dVar 3) (dC (.int 1))) (dCons (dOp oIx (dVar 3) (dC (.int 2))) (dCons (dOp oIx (dVar 3) (dC (.int 3))) (dCons (dOp oIx (dVar 3) (dC (.int 4))) (dNil)))))))) (dRet (dC (.bl false))) (dNext)) (dSeq (dIf (dtB (dOp oGt (dVar 6) (dC (.int 0)))) (dRet (dAndV (dIs [.int] (dVar 8)) (dAndV (dNotV (dIs [.bl] (dVar 8))) (dOp oEq (dVar 8) (dVar 6))))) (dNext)) (dSeq (dIf (dtOr (dtB (dOp oNe (dVar 8) (dC (.int 0)))) (dtNot (dtE (dCall s__law_holds (dCons (dVar 9) (dCons (dVar 3) (dNil))))))) (dRet (dC (.bl false))) (dNext)) (b_lawT_tail s__law_holds)))
/-- all but these stays -/
def Bq (qs : List Addr) (M M' : Mm) : Prop := ∀ b o, b ∉ qs → M b = some o → M' b = some o
/-- the data, the lists that were handed in -/
structure Hd (M : Mm) (a a1 a2 a3 a4 h q1 q2 q3 q4 : Addr) (t : TY) : Prop where
  h0 : M a = some (.lst [.int t.w, .ref a1, .ref a2, .ref a3, .ref a4])
  h1 : M a1 = some (.lst (t.ins.map .str))
  h2 : M a2 = some (.lst t.needs)
  h3 : M a3 = some (.lst (letD t.lets))
  h4 : M a4 = some (.lst (outI t.outs))
  hh : M h = some (.lst [.ref q1, .ref q2, .ref q3, .ref q4])
  m1 : M q1 = some (.lst (t.ins.map .str))
  m2 : M q2 = some (.lst t.needs)
  m3 : M q3 = some (.lst (letD t.lets))
  m4 : M q4 = some (.lst (outI t.outs))
  ok : t.Ok2
  n0 : a ∉ [q1, q2, q3, q4]
  n1 : a1 ∉ [q1, q2, q3, q4]
  n2 : a2 ∉ [q1, q2, q3, q4]
  n3 : a3 ∉ [q1, q2, q3, q4]
  n4 : a4 ∉ [q1, q2, q3, q4]
  nh : h ∉ [q1, q2, q3, q4]
theorem Hd.but {M M' : Mm} {a a1 a2 a3 a4 h q1 q2 q3 q4 x : Addr} {t : TY} (g : Hd M a a1 a2 a3 a4 h q1 q2 q3 q4 t) (b : But x M M') (hx : M x = none) : Hd M' a a1 a2 a3 a4 h q1 q2 q3 q4 t := by
  have ne : ∀ y o, M y = some o → y ≠ x := fun y o q z => by subst z; rw [hx] at q; cases q
  have go : ∀ y o, M y = some o → M' y = some o := fun y o q => b _ _ (ne _ _ q) q
  exact ⟨go _ _ g.h0, go _ _ g.h1, go _ _ g.h2, go _ _ g.h3, go _ _ g.h4, go _ _ g.hh, go _ _ g.m1, go _ _ g.m2, go _ _ g.m3, go _ _ g.m4, g.ok, g.n0, g.n1, g.n2, g.n3, g.n4, g.nh⟩
theorem Hd.ext {M M' : Mm} {a a1 a2 a3 a4 h q1 q2 q3 q4 : Addr} {t : TY} (g : Hd M a a1 a2 a3 a4 h q1 q2 q3 q4 t) (e : Ext M M') : Hd M' a a1 a2 a3 a4 h q1 q2 q3 q4 t :=
  ⟨e _ _ g.h0, e _ _ g.h1, e _ _ g.h2, e _ _ g.h3, e _ _ g.h4, e _ _ g.hh, e _ _ g.m1, e _ _ g.m2, e _ _ g.m3, e _ _ g.m4, g.ok, g.n0, g.n1, g.n2, g.n3, g.n4, g.nh⟩
def En0 (d0 d1 d2 : D) (a h : Addr) (x4 x5 : Option D) (due line : Int) (tx : D) (y z : Option D) : DEnv := [some d0, some d1, some d2, some (.ref a), x4, x5, some (.int due), some (.ref h), some (.int line), some tx, y, z]
theorem r_lawT_tail {cl : CF} {C a a1 a2 a3 a4 h q1 q2 q3 q4 x : Addr} {t : TY} {M : Mm} {Q : DQ} {d0 d1 d2 : D} {x4 x5 y z : Option D} {due line : Int} (g : Hd M a a1 a2 a3 a4 h q1 q2 q3 q4 t) (tx : TyM cl C M x t) (hx : x ∉ [q1, q2, q3, q4]) (hQ : ∀ M', Q (.bl true) M') :
    b_lawT_tail (sp_holds cl C) (En Q) (En0 d0 d1 d2 a h x4 x5 due line (.ref x) y z) M := by
  refine ⟨_, g.hh, ?_⟩
  refine ⟨fun i E M' => Bq [q1, q2, q3, q4] M M' ∧ (∀ q ∈ [q1, q2, q3, q4], ∃ l : List D, M' q = some (.lst l) ∧ l.length ≤ 70 + i) ∧ ∃ y, E = En0 d0 d1 d2 a h x4 x5 due line (.ref x) y z, ⟨fun _ _ _ e => e, ?_, _, rfl⟩, fun i E M' ⟨b, _⟩ => b _ _ g.nh g.hh, ?_, ?_⟩
  · intro q hq
    simp only [List.mem_cons, List.not_mem_nil, or_false] at hq
    rcases hq with rfl | rfl | rfl | rfl
    · exact ⟨_, g.m1, by rw [List.length_map]; exact g.ok.ni⟩
    · exact ⟨_, g.m2, g.ok.nn⟩
    · exact ⟨_, g.m3, by unfold letD; rw [List.length_map]; exact g.ok.nl⟩
    · exact ⟨_, g.m4, by unfold outI; rw [List.length_map]; exact g.ok.no⟩
  · rintro i E M' d hd ⟨b, hl, y, rfl⟩
    have : ∃ q, q ∈ [q1, q2, q3, q4] ∧ d = .ref q ∧ i ≤ 4 := by
      match i with
      | 0 => exact ⟨q1, by simp, (Option.some.inj hd).symm, by decide⟩
      | 1 => exact ⟨q2, by simp, (Option.some.inj hd).symm, by decide⟩
      | 2 => exact ⟨q3, by simp, (Option.some.inj hd).symm, by decide⟩
      | 3 => exact ⟨q4, by simp, (Option.some.inj hd).symm, by decide⟩
      | _ + 4 => cases hd
    obtain ⟨q, hq, rfl, hi⟩ := this
    obtain ⟨l, e1, e2⟩ := hl q hq
    refine ⟨⟨l, e1⟩, by show 2 ≤ sizeLine; decide, l, e1, tolist (by omega), ?_, ?_, _, rfl⟩
    · intro c o hc e
      have hcq : c ≠ q := fun z => hc (by rw [z]; exact hq)
      rw [updM_ne hcq]
      exact b _ _ hc e
    · intro q' hq'
      by_cases e : q' = q
      · subst e
        exact ⟨_, updM_same, by rw [List.length_append]; show l.length + 1 ≤ _; omega⟩
      · obtain ⟨l', f1, f2⟩ := hl q' hq'
        exact ⟨l', by rw [updM_ne e]; exact f1, by omega⟩
  rintro E M' ⟨b, _, y, rfl⟩
  exact ⟨x, a, a1, a2, a3, a4, t, rfl, ⟨b _ _ hx tx.at_, tx.cl⟩, g.ok, b _ _ g.n0 g.h0, b _ _ g.n1 g.h1, b _ _ g.n2 g.h2, b _ _ g.n3 g.h3, b _ _ g.n4 g.h4, fun M2 _ => hQ M2⟩
/-! ### equal lists -/
theorem vw_lst {M : Mm} {a : Addr} {n : Nat} {ds : List D} (h : M a = some (.lst ds)) (hd : ∀ d ∈ ds, OkD n d) : Vw M (.ref a) (.list (toPDs ds)) := by
  obtain ⟨h1, _, _⟩ := ok_list hd
  obtain ⟨h2, h3⟩ := vw_pures (M := M) ds h1
  exact .lst _ h h2 h3
theorem vw_four {M : Mm} {h a b c e : Addr} {x y z u : PyData} (hh : M h = some (.lst [.ref a, .ref b, .ref c, .ref e])) (ha : Vw M (.ref a) x) (hb : Vw M (.ref b) y) (hc : Vw M (.ref c) z) (he : Vw M (.ref e) u) : Vw M (.ref h) (.list [x, y, z, u]) := by
  refine .lst _ hh rfl fun i d p e1 e2 => ?_
  match i with
  | 0 => cases Option.some.inj e1; cases Option.some.inj e2; exact ha
  | 1 => cases Option.some.inj e1; cases Option.some.inj e2; exact hb
  | 2 => cases Option.some.inj e1; cases Option.some.inj e2; exact hc
  | 3 => cases Option.some.inj e1; cases Option.some.inj e2; exact he
  | _ + 4 => cases e1
theorem four_shaped {l1 l2 l3 l4 : List D} {n : Nat} (hn : n ≤ 60) (h1 : ∀ d ∈ l1, OkD n d) (h2 : ∀ d ∈ l2, OkD n d) (h3 : ∀ d ∈ l3, OkD n d) (h4 : ∀ d ∈ l4, OkD n d) : (PyData.list [.list (toPDs l1), .list (toPDs l2), .list (toPDs l3), .list (toPDs l4)]).canLay0 = true ∧ SeqAt.shaped (PyData.list [.list (toPDs l1), .list (toPDs l2), .list (toPDs l3), .list (toPDs l4)]) = true := by
  obtain ⟨_, c1, e1⟩ := ok_list h1
  obtain ⟨_, c2, e2⟩ := ok_list h2
  obtain ⟨_, c3, e3⟩ := ok_list h3
  obtain ⟨_, c4, e4⟩ := ok_list h4
  have cl : (PyData.list [.list (toPDs l1), .list (toPDs l2), .list (toPDs l3), .list (toPDs l4)]).canLay0 = true := by
    simp only [PyData.canLay0, PyData.canLayAll0, c1, c2, c3, c4, Bool.and_self]
  refine ⟨cl, ?_⟩
  unfold SeqAt.shaped
  rw [cl, Bool.true_and, decide_eq_true_eq]
  simp only [PyData.depth, PyData.depthAll]
  omega
theorem oki (t : TY) (ok : t.Ok2) : ∀ d ∈ t.ins.map D.str, OkD 20 d := fun d hd => by
  obtain ⟨s, hs, rfl⟩ := List.mem_map.mp hd
  exact ok_str (an_ok (ok.si s hs).1) _
theorem okn (t : TY) (ok : t.Ok2) : ∀ d ∈ t.needs, OkD 20 d := fun d hd => ((ok.fn d hd).mono (by decide)).ok
theorem okl (t : TY) (ok : t.Ok2) : ∀ d ∈ letD t.lets, OkD 20 d := fun d hd => by
  obtain ⟨e, he, rfl⟩ := List.mem_map.mp hd
  exact ((f2 (fit_str (an_ok (ok.fl e he).1.1) _) (ok.fl e he).2).mono (by decide)).ok
theorem oko (t : TY) (ok : t.Ok2) : ∀ d ∈ outI t.outs, OkD 20 d := fun d hd => by
  obtain ⟨e, he, rfl⟩ := List.mem_map.mp hd
  exact ((f2 (fit_int _ _) (ok.fo e he)).mono (by decide)).ok
theorem Hd.same {M : Mm} {a a1 a2 a3 a4 h q1 q2 q3 q4 p : Addr} {t : TY} {Q : DQ} (g : Hd M a a1 a2 a3 a4 h q1 q2 q3 q4 t) (hp : M p = some (.lst [.ref a1, .ref a2, .ref a3, .ref a4])) (q : Q (.bl false) M) : oNe (.ref h) (.ref p) M Q := by
  have o1 := oki t g.ok
  have o2 := okn t g.ok
  have o3 := okl t g.ok
  have o4 := oko t g.ok
  obtain ⟨s0, s1⟩ := four_shaped (by decide) o1 o2 o3 o4
  refine ⟨_, _, vw_four g.hh (vw_lst g.m1 o1) (vw_lst g.m2 o2) (vw_lst g.m3 o3) (vw_lst g.m4 o4), vw_four hp (vw_lst g.h1 o1) (vw_lst g.h2 o2) (vw_lst g.h3 o3) (vw_lst g.h4 o4), s1, s1, ?_⟩
  rw [SeqAt.eqv_refl _ s0]; exact q
theorem r_lawT_rest {cl : CF} {C a a1 a2 a3 a4 h q1 q2 q3 q4 : Addr} {t : TY} {M : Mm} {Q : DQ} {d0 d1 d2 tx : D} {x4 x5 y z : Option D} {line : Int} (g : Hd M a a1 a2 a3 a4 h q1 q2 q3 q4 t) (hl : line = (t.due : Nat)) (htx : t.due = 0 → ∃ x, tx = .ref x ∧ TyM cl C M x t ∧ x ∉ [q1, q2, q3, q4]) (hQ : ∀ M', Q (.bl true) M') :
    b_lawT_rest (sp_holds cl C) (En Q) (En0 d0 d1 d2 a h x4 x5 (t.due : Nat) line tx y z) M := by
  subst hl
  refine .inl ⟨_, _, .ref a1, g.h0, rfl, rfl, .inl ⟨_, _, .ref a2, g.h0, rfl, rfl, .inl ⟨_, _, .ref a3, g.h0, rfl, rfl, .inl ⟨_, _, .ref a4, g.h0, rfl, rfl, ?_⟩⟩⟩⟩
  refine ⟨by show 4 ≤ sizeLine; decide, fun p hp => ?_⟩
  have xp : Ext M (updM M p (.lst [.ref a1, .ref a2, .ref a3, .ref a4])) := Ext.new hp
  have pm : updM M p (.lst [.ref a1, .ref a2, .ref a3, .ref a4]) p = some (.lst [.ref a1, .ref a2, .ref a3, .ref a4]) := updM_same
  have g1 := g.ext xp
  show oNe (.ref h) (.ref p) (updM M p (.lst [.ref a1, .ref a2, .ref a3, .ref a4])) _
  have htx1 : t.due = 0 → ∃ x, tx = .ref x ∧ TyM cl C (updM M p (.lst [.ref a1, .ref a2, .ref a3, .ref a4])) x t ∧ x ∉ [q1, q2, q3, q4] := fun e => by
    obtain ⟨x, e1, e2, e3⟩ := htx e
    exact ⟨x, e1, e2.ext xp, e3⟩
  generalize updM M p (.lst [.ref a1, .ref a2, .ref a3, .ref a4]) = M1 at pm g1 htx1 ⊢
  refine g1.same pm ?_
  walk_at "if"
  refine ⟨fun hb => ?_, fun hb => ?_⟩
  · walk_at "if"
    walk_at "if"
    exact qb (hQ _) (by simp)
  have hd : t.due = 0 := by have : ¬ (0 : Int) < (t.due : Nat) := of_decide_eq_false hb; omega
  obtain ⟨x, rfl, tx1, hx⟩ := htx1 hd
  refine ⟨fun hc => ?_, fun _ => ?_⟩
  · rw [hd] at hc; exact absurd hc (by decide)
  refine ⟨x, a, a1, a2, a3, a4, t, rfl, tx1, g1.ok, g1.h0, g1.h1, g1.h2, g1.h3, g1.h4, fun M2 x2 => ?_⟩
  walk_at "if"
  exact r_lawT_tail (g1.ext x2) (tx1.ext x2) hx hQ
end Ry

set_option Elab.async false
set_option linter.all false
set_option autoImplicit false
set_option maxRecDepth 100000
set_option maxHeartbeats 8000000
/-! readings for k86: the law -/
namespace Ry
open PySem PySem.Spec PyProof.Rows L2 DH Bd Rd
local macro_rules | `(tactic| walk_at "if") => `(tactic| first | (refine ⟨fun _ => ?_, fun hc => absurd hc (by decide)⟩) | (refine ⟨fun hc => absurd hc (by decide), fun _ => ?_⟩))
def b_lawT_try (c_Text : Addr) (s_Text : DSp) (c_BadText : Addr) (sub_BadText kit_NoneshorterError kit_ValueError kit_BadBook : Value → Option Bool) (s__law_holds : DSp) : DS := dSeq (dTryAs sub_BadText 11 (dAsgMkX c_Text s_Text (dCons (dOp oIx (dVar 3) (dC (.int 0))) (dCons (dOp oIx (dVar 7) (dC (.int 0))) (dCons (dOp oIx (dVar 7) (dC (.int 1))) (dCons (dOp oIx (dVar 7) (dC (.int 2))) (dCons (dOp oIx (dVar 7) (dC (.int 3))) (dNil)))))) 9) (fun a cls d => dSeq (dAsg (dXf a cls d c_BadText "line" (dVar 11)) (.nm 8)) (dIf (dtOr (dtNot (dtE (dIsX kit_NoneshorterError a cls d c_BadText (dVar 11)))) (dtOr (dtNot (dtE (dIsX kit_ValueError a cls d c_BadText (dVar 11)))) (dtE (dIsX kit_BadBook a cls d c_BadText (dVar 11))))) (dRet (dC (.bl false))) (dNext)))) (b_lawT_rest s__law_holds)
theorem not_mem_new {M : Mm} {a a1 a2 a3 a4 h q1 q2 q3 q4 x : Addr} {t : TY} (g : Hd M a a1 a2 a3 a4 h q1 q2 q3 q4 t) (hx : M x = none) : x ∉ [q1, q2, q3, q4] := fun hm => by
  simp only [List.mem_cons, List.not_mem_nil, or_false] at hm
  rcases hm with rfl | rfl | rfl | rfl
  · rw [g.m1] at hx; cases hx
  · rw [g.m2] at hx; cases hx
  · rw [g.m3] at hx; cases hx
  · rw [g.m4] at hx; cases hx
theorem r_lawT_try {cl : CF} {C cB a a1 a2 a3 a4 h q1 q2 q3 q4 : Addr} {t : TY} {M : Mm} {Q : DQ} {d0 d1 d2 : D} {x4 x5 y : Option D} {sub k1 k2 k3 : Value → Option Bool} (hcl : ClT cl C) (hs : sub (.ref cB) = some true) (hk1 : k1 (.ref cB) = some true) (hk2 : k2 (.ref cB) = some true) (hk3 : k3 (.ref cB) = some false)
    (g : Hd M a a1 a2 a3 a4 h q1 q2 q3 q4 t) (hQ : ∀ M', Q (.bl true) M') :
    b_lawT_try C (sp_Text cl C cB) cB sub k1 k2 k3 (sp_holds cl C) (En Q) (En0 d0 d1 d2 a h x4 x5 (t.due : Nat) 0 .non y none) M := by
  refine .inl ⟨_, _, .int t.w, g.h0, rfl, at0, .inl ⟨_, _, .ref q1, g.hh, rfl, at0, .inl ⟨_, _, .ref q2, g.hh, rfl, rfl, .inl ⟨_, _, .ref q3, g.hh, rfl, rfl, .inl ⟨_, _, .ref q4, g.hh, rfl, rfl, fun x hx => ?_⟩⟩⟩⟩⟩
  have xn : Ext M (updM M x (.ins C [])) := Ext.new hx
  have nx := not_mem_new g hx
  refine ⟨x, q1, q2, q3, q4, t, rfl, hcl, updM_same, xn _ _ g.m1, xn _ _ g.m2, xn _ _ g.m3, xn _ _ g.m4, g.ok.fit, fun hd M' b tx => ⟨rfl, ?_⟩, fun hd d M' b hm => ?_⟩
  · have g' := g.but ((But.ofExt xn).trans b) hx
    exact r_lawT_rest (cl := cl) (C := C) g' (by rw [hd]; rfl) (fun _ => ⟨x, rfl, tx, nx⟩) hQ
  · have g' := g.but ((But.ofExt xn).trans b) hx
    refine ⟨true, hs, fun _ e he => ?_, fun hc => absurd hc (by decide)⟩
    refine ⟨rfl, rfl, d, _, .int (t.due : Nat), rfl, hm, rfl, ?_⟩
    refine ⟨rfl, rfl, d, _, true, rfl, hm, hk1, ?_⟩
    walk_at "if"
    refine ⟨rfl, rfl, d, _, true, rfl, hm, hk2, ?_⟩
    walk_at "if"
    refine ⟨rfl, rfl, d, _, false, rfl, hm, hk3, ?_⟩
    walk_at "if"
    exact r_lawT_rest (cl := cl) (C := C) g' rfl (fun h0 => absurd h0 (by omega)) hQ
theorem r_law_v3 (cl : CF) (C cB cN cK : Addr) (sub k1 k2 k3 : Value → Option Bool) (hcl : ClT cl C) (hs : sub (.ref cB) = some true) (hk1 : k1 (.ref cB) = some true) (hk2 : k2 (.ref cB) = some true) (hk3 : k3 (.ref cB) = some false) :
    ∀ ds M Q E, sp_law ds M Q E → b_law_v3 C (sp_Text cl C cB) cB cN cK sub k1 k2 k3 sp_stream sp_data2 sp_take sp_spoil sp_ldue (sp_holds cl C) (En Q) (startD 12 ds) M := by
  rintro ds M Q E ⟨ns, rfl, h63, hQ⟩
  refine ⟨ns, 400, rfl, h63, by decide, by decide, fun p M1 hp0 x1 hnums => ?_⟩
  refine ⟨by show 1 ≤ sizeLine; decide, fun c hc => ?_⟩
  have dw : Dw p c (updM M1 c (.lst [.int 0])) := by
    obtain ⟨xs, e1, e2⟩ := hnums
    have hne : p ≠ c := fun z => by subst z; rw [hc] at e1; cases e1
    exact ⟨hne, ⟨xs, by rw [updM_ne hne]; exact e1, e2⟩, ⟨0, updM_same⟩⟩
  generalize updM M1 c (.lst [.int 0]) = M2 at dw
  refine ⟨p, c, rfl, dw, fun a t M3 ok da d3 => ?_⟩
  obtain ⟨a1, a2, a3, a4, h0, h1, h2, h3, h4, ne⟩ := da.ex
  have ds : DaS p c M3 a a1 a2 a3 a4 t := ⟨h0, h1, h2, h3, h4, ne, dw.go d3, ok⟩
  refine ⟨by show 4 ≤ sizeLine; decide, fun l hl => ?_⟩
  have xl : Ext M3 (updM M3 l (.lst [.int 0, .int 0, .int 1, .int 2])) := Ext.new hl
  have lm : updM M3 l (.lst [.int 0, .int 0, .int 1, .int 2]) l = some (.lst [.int 0, .int 0, .int 1, .int 2]) := updM_same
  have hlc := ds.dw.cne hl
  have ds4 := ds.go (.ofExt xl)
  generalize updM M3 l (.lst [.int 0, .int 0, .int 1, .int 2]) = M4 at lm ds4 ⊢
  refine ⟨p, c, 4, rfl, by decide, ds4.dw, fun r hr M5 d5 => ?_⟩
  obtain ⟨m, hm, hm2⟩ := four2_at r hr
  refine .inl ⟨_, _, .int m, d5.ex _ _ hlc lm, rfl, atI_nat hm, ?_⟩
  have ds5 := ds4.go d5
  refine ⟨by omega, by omega, ?_⟩
  refine ⟨fun i E M' => (∃ t', DaS p c M' a a1 a2 a3 a4 t') ∧ ∃ y : Option D, E = [some (.fl (ns.map D.int)), some (.ref p), some (.ref c), some (.ref a), some (.int m), y, none, none, none, none, none, none], ⟨⟨t, ds5⟩, none, rfl⟩, fun _ _ _ _ => trivial, ?_, ?_⟩
  · rintro i E M' d hd ⟨⟨t', ds'⟩, y, rfl⟩
    exact ⟨p, c, a, a1, a2, a3, a4, t', rfl, ds', fun M6 t6 ds6 => ⟨⟨t6, ds6⟩, _, rfl⟩⟩
  rintro E M6 ⟨⟨t6, ds6⟩, y, rfl⟩
  refine .inl ⟨_, _, .int t6.w, ds6.h0, rfl, at0, .inl ⟨_, _, .ref a1, ds6.h0, rfl, rfl, .inl ⟨_, _, .ref a2, ds6.h0, rfl, rfl, .inl ⟨_, _, .ref a3, ds6.h0, rfl, rfl, .inl ⟨_, _, .ref a4, ds6.h0, rfl, rfl, ?_⟩⟩⟩⟩⟩
  refine ⟨a1, a2, a3, a4, t6, rfl, ds6.h1, ds6.h2, ds6.h3, ds6.h4, ds6.ok.fit, fun M7 x7 => ?_⟩
  have ds7 := ds6.go (.ofExt x7)
  refine .inl ⟨_, _, .ref a1, ds7.h0, rfl, rfl, _, ds7.h1, fun q1 hq1 => ?_⟩
  have xq1 := Ext.new (o := .lst (t6.ins.map .str)) hq1
  have mq1 : updM M7 q1 (.lst (t6.ins.map .str)) q1 = some (.lst (t6.ins.map .str)) := updM_same
  have ds8 := ds7.go (.ofExt xq1)
  generalize updM M7 q1 (.lst (t6.ins.map .str)) = M8 at xq1 mq1 ds8 ⊢
  refine .inl ⟨_, _, .ref a2, ds8.h0, rfl, rfl, _, ds8.h2, fun q2 hq2 => ?_⟩
  have xq2 := Ext.new (o := .lst t6.needs) hq2
  have mq2 : updM M8 q2 (.lst t6.needs) q2 = some (.lst t6.needs) := updM_same
  have ds9 := ds8.go (.ofExt xq2)
  have n12 := Ext.ne mq1 hq2
  have b2 : ∀ x o, M7 x = some o → x ≠ q2 := fun x o e => Ext.ne (xq1 _ _ e) hq2
  have mq1 := xq2 _ _ mq1
  generalize updM M8 q2 (.lst t6.needs) = M9 at xq2 mq1 mq2 ds9 ⊢
  refine .inl ⟨_, _, .ref a3, ds9.h0, rfl, rfl, _, ds9.h3, fun q3 hq3 => ?_⟩
  have xq3 := Ext.new (o := .lst (letD t6.lets)) hq3
  have mq3 : updM M9 q3 (.lst (letD t6.lets)) q3 = some (.lst (letD t6.lets)) := updM_same
  have dsA := ds9.go (.ofExt xq3)
  have b3 : ∀ x o, M7 x = some o → x ≠ q3 := fun x o e => Ext.ne (xq2 _ _ (xq1 _ _ e)) hq3
  have mq1 := xq3 _ _ mq1
  have mq2 := xq3 _ _ mq2
  generalize updM M9 q3 (.lst (letD t6.lets)) = MA at xq3 mq1 mq2 mq3 dsA ⊢
  refine .inl ⟨_, _, .ref a4, dsA.h0, rfl, rfl, _, dsA.h4, fun q4 hq4 => ?_⟩
  have xq4 := Ext.new (o := .lst (outI t6.outs)) hq4
  have mq4 : updM MA q4 (.lst (outI t6.outs)) q4 = some (.lst (outI t6.outs)) := updM_same
  have dsB := dsA.go (.ofExt xq4)
  have b4 : ∀ x o, M7 x = some o → x ≠ q4 := fun x o e => Ext.ne (xq3 _ _ (xq2 _ _ (xq1 _ _ e))) hq4
  have mq1 := xq4 _ _ mq1
  have mq2 := xq4 _ _ mq2
  have mq3 := xq4 _ _ mq3
  generalize updM MA q4 (.lst (outI t6.outs)) = MB at xq4 mq1 mq2 mq3 mq4 dsB ⊢
  refine ⟨by show 4 ≤ sizeLine; decide, fun h hh => ?_⟩
  have xh : Ext MB (updM MB h (.lst [.ref q1, .ref q2, .ref q3, .ref q4])) := Ext.new hh
  have hm0 : updM MB h (.lst [.ref q1, .ref q2, .ref q3, .ref q4]) h = some (.lst [.ref q1, .ref q2, .ref q3, .ref q4]) := updM_same
  have dsC := dsB.go (.ofExt xh)
  have nin : ∀ x o, M7 x = some o → x ∉ [q1, q2, q3, q4] := fun x o e hm => by
    simp only [List.mem_cons, List.not_mem_nil, or_false] at hm
    rcases hm with rfl | rfl | rfl | rfl
    · exact Ext.ne e hq1 rfl
    · exact b2 _ _ e rfl
    · exact b3 _ _ e rfl
    · exact b4 _ _ e rfl
  have nh : h ∉ [q1, q2, q3, q4] := fun hm => by
    simp only [List.mem_cons, List.not_mem_nil, or_false] at hm
    rcases hm with rfl | rfl | rfl | rfl
    · rw [mq1] at hh; cases hh
    · rw [mq2] at hh; cases hh
    · rw [mq3] at hh; cases hh
    · rw [mq4] at hh; cases hh
  have g : Hd (updM MB h (.lst [.ref q1, .ref q2, .ref q3, .ref q4])) a a1 a2 a3 a4 h q1 q2 q3 q4 t6 := ⟨dsC.h0, dsC.h1, dsC.h2, dsC.h3, dsC.h4, hm0, xh _ _ mq1, xh _ _ mq2, xh _ _ mq3, xh _ _ mq4, dsC.ok, nin _ _ ds7.h0, nin _ _ ds7.h1, nin _ _ ds7.h2, nin _ _ ds7.h3, nin _ _ ds7.h4, nh⟩
  exact r_lawT_try (cl := cl) hcl hs hk1 hk2 hk3 g hQ
end Ry

set_option Elab.async false
set_option linter.all false
set_option autoImplicit false
set_option maxRecDepth 100000
set_option maxHeartbeats 0
namespace K86e
open PySem PySem.Spec PyProof.Rows L2 DH Bd K86
abbrev dd (x : Str) (i : Nat) : He.DefD := ⟨(x, none), x, x, defArgs (top i), defBody (top i), defScope (top i), [], []⟩
abbrev dm (c m q : Str) (i j : Nat) : He.DefD := ⟨(c, some m), m, q, defArgs (met i j), defBody (met i j), defScope (met i j), [], []⟩
def fn0 : List He.DefD := [dd "word_limit" 6, dd "is_name" 11, dd "is_value_name" 12, dd "formula_size" 13, dd "is_shaped" 14, dd "is_formula" 15, dd "bad_input" 22, dd "bad_let" 23, dd "bad_out" 24, dd "first_bad_line" 25, dd "_law_mix" 27, dd "_law_stream" 28]
def fn1 : List He.DefD := [dd "_law_take" 29, dd "_law_name" 30, dd "_law_arity" 31, dd "_law_formula" 32, dd "_law_odd" 33, dd "_law_size" 34, dd "_law_shape" 35, dd "_law_good" 36, dd "_law_good_name" 37, dd "_law_due" 38, dd "_law_data" 39, dd "_law_spoil" 40]
def fn2 : List He.DefD := [dd "_law_holds" 41, dd "law" 42, dm "Text" "__init__" "Text.__init__" 21 0, dm "BadText" "__init__" "BadText.__init__" 2 0]
def fn : List He.DefD := fn0 ++ (fn1 ++ (fn2))
def fa0 : List He.Fa := [.glo "word_limit", .glo "is_name", .glo "is_value_name", .glo "formula_size", .glo "is_shaped", .glo "is_formula", .glo "bad_input", .glo "bad_let", .glo "bad_out", .glo "first_bad_line", .glo "_law_mix", .glo "_law_stream", .glo "_law_take", .glo "_law_name", .glo "_law_arity"]
def fa1 : List He.Fa := [.glo "_law_formula", .glo "_law_odd", .glo "_law_size", .glo "_law_shape", .glo "_law_good", .glo "_law_good_name", .glo "_law_due", .glo "_law_data", .glo "_law_spoil", .glo "_law_holds", .glo "law", .glo "ARITY", .str "LETTERS" "abcdefghijklmnopqrstuvwxyz", .str "DIGITS" "0123456789", .int "MOST_DEPTH" 6]
def fa2 : List He.Fa := [.int "MOST_SIZE" 15, .int "MOST_LETS" 60, .int "MOST_NEEDS" 2, .int "MOST_BITS" 8, .free "ValueError", .free "abs", .free "bool", .free "int", .free "isinstance", .free "len", .free "list", .free "max", .free "min", .free "range", .free "str"]
def fa3 : List He.Fa := [.free "tuple", .glo "Text", .cls "Text", .mkr "Text", .noat "Text" "width", .noat "Text" "inputs", .noat "Text" "needs", .noat "Text" "lets", .noat "Text" "outs", .glo "BadBook", .glo "BadText", .glo "NoneshorterError"]
def fa : List He.Fa := fa0 ++ (fa1 ++ (fa2 ++ (fa3)))
def ts : List He.Tab := [(fun K => He.ga K "ARITY", kv_ARITY.map (·.1))]
def ex (K : PySem.W.Frag) : Bool := He.valsB K (He.ga K "ARITY") (kv_ARITY.map fun q => (q.1, toDv q.2)) && (excB K (He.ga K "BadText") "line" && (baseB K (He.ga K "NoneshorterError") && (xcB K (He.ga K "BadText") "line" && (oB (PySem.W.exmOne K (.ref (He.ga K "BadText")) (.ref (He.ga K "BadText"))) true && (oB (PySem.W.kitOne K (.ref (He.ga K "BadText")) (.ref (He.ga K "NoneshorterError"))) true && (oB (PySem.W.kitOne K (.ref (He.ga K "BadText")) (.type "ValueError")) true && (oB (PySem.W.kitOne K (.ref (He.ga K "BadText")) (.ref (He.ga K "BadBook"))) false)))))))
def names0 : List PySem.Str := ["NoneshorterError", "BadText", "BadBook", "ARITY", "word_limit", "LETTERS", "DIGITS", "MOST_DEPTH", "is_name", "is_value_name", "formula_size", "is_shaped", "is_formula", "MOST_SIZE", "MOST_LETS"]
def names1 : List PySem.Str := ["MOST_NEEDS", "MOST_BITS", "Text", "bad_input", "bad_let", "bad_out", "first_bad_line", "_law_mix", "_law_stream", "_law_take", "_law_name", "_law_arity", "_law_formula", "_law_odd", "_law_size"]
def names2 : List PySem.Str := ["_law_shape", "_law_good", "_law_good_name", "_law_due", "_law_data", "_law_spoil", "_law_holds"]
def names : List PySem.Str := names0 ++ names1 ++ names2
abbrev R : PySem.W.OpenRow := PySem.W.OpenLaw.row PySem.Challenge.rw_noneshorter_k86_text_lines
abbrev hk : PySem.W.Hook := hookY 4 fa fn ts ex
def ob (s : PySem.W.SharedT) : He.AlX := obsY 4 fa fn ts ex (HandSHeadRun.getT s)
theorem ob_eq (s : PySem.W.SharedT) : ob s = hk.obs s.abs := obsY_eq (HandSHeadRun.getT_eq s)
theorem run (w : World) : HandSHeadRun.RunEq R (PySem.W.view R.prog [42]) hk ob 3000 names w :=
  PySem.W.byRow2 "special-get-raises" (P := fun w => HandSHeadRun.RunEq R (PySem.W.view R.prog [42]) hk ob 3000 names w) (fun w => by intro os; kernel_rfl) (fun w => by intro os; kernel_rfl) w
section
variable {P : Program} {w : World} {K : PySem.W.Frag} {h : Heap} {mg : Str → Option Value} {base : Heap}
theorem gb (X : K.In h) (G : h.Ns mainGlobals mg) (c : He.SaysX fa fn ts [] ex w h K) : Gb K w mg where
  ValueError := He.free_ok X G (c.t.d.fact 34 (f := .free "ValueError") rfl)
  abs := He.free_ok X G (c.t.d.fact 35 (f := .free "abs") rfl)
  bool := He.free_ok X G (c.t.d.fact 36 (f := .free "bool") rfl)
  int := He.free_ok X G (c.t.d.fact 37 (f := .free "int") rfl)
  isinstance := He.free_ok X G (c.t.d.fact 38 (f := .free "isinstance") rfl)
  len := He.free_ok X G (c.t.d.fact 39 (f := .free "len") rfl)
  list := He.free_ok X G (c.t.d.fact 40 (f := .free "list") rfl)
  max := He.free_ok X G (c.t.d.fact 41 (f := .free "max") rfl)
  min := He.free_ok X G (c.t.d.fact 42 (f := .free "min") rfl)
  range := He.free_ok X G (c.t.d.fact 43 (f := .free "range") rfl)
  str := He.free_ok X G (c.t.d.fact 44 (f := .free "str") rfl)
  tuple := He.free_ok X G (c.t.d.fact 45 (f := .free "tuple") rfl)
  c_ARITY := ⟨_, He.glo_ok X G (c.t.d.fact 26 (f := .glo "ARITY") rfl), kdAt_of (tab_of c.t 0 (t := (fun K => He.ga K "ARITY", kv_ARITY.map (·.1))) rfl) (He.ba c.more).1 (by decide) (by decide +kernel)⟩
  c_LETTERS := He.str_ok X G (c.t.d.fact 27 (f := .str "LETTERS" "abcdefghijklmnopqrstuvwxyz") rfl)
  c_DIGITS := He.str_ok X G (c.t.d.fact 28 (f := .str "DIGITS" "0123456789") rfl)
  c_MOST_DEPTH := He.int_ok X G (c.t.d.fact 29 (f := .int "MOST_DEPTH" 6) rfl)
  c_MOST_SIZE := He.int_ok X G (c.t.d.fact 30 (f := .int "MOST_SIZE" 15) rfl)
  c_MOST_LETS := He.int_ok X G (c.t.d.fact 31 (f := .int "MOST_LETS" 60) rfl)
  c_MOST_NEEDS := He.int_ok X G (c.t.d.fact 32 (f := .int "MOST_NEEDS" 2) rfl)
  c_MOST_BITS := He.int_ok X G (c.t.d.fact 33 (f := .int "MOST_BITS" 8) rfl)
theorem t_word_limit (X : K.In h) (G : h.Ns mainGlobals mg) (c : He.SaysX fa fn ts [] ex w h K) : Top K mg "word_limit" (top 6) :=
  let ⟨fd, F⟩ := c.t.d.def_ 0 (d := dd "word_limit" 6) rfl; ⟨_, fd, F, He.glo_ok X G (c.t.d.fact 0 (f := .glo "word_limit") rfl)⟩
theorem t_is_name (X : K.In h) (G : h.Ns mainGlobals mg) (c : He.SaysX fa fn ts [] ex w h K) : Top K mg "is_name" (top 11) :=
  let ⟨fd, F⟩ := c.t.d.def_ 1 (d := dd "is_name" 11) rfl; ⟨_, fd, F, He.glo_ok X G (c.t.d.fact 1 (f := .glo "is_name") rfl)⟩
theorem t_is_value_name (X : K.In h) (G : h.Ns mainGlobals mg) (c : He.SaysX fa fn ts [] ex w h K) : Top K mg "is_value_name" (top 12) :=
  let ⟨fd, F⟩ := c.t.d.def_ 2 (d := dd "is_value_name" 12) rfl; ⟨_, fd, F, He.glo_ok X G (c.t.d.fact 2 (f := .glo "is_value_name") rfl)⟩
theorem t_formula_size (X : K.In h) (G : h.Ns mainGlobals mg) (c : He.SaysX fa fn ts [] ex w h K) : Top K mg "formula_size" (top 13) :=
  let ⟨fd, F⟩ := c.t.d.def_ 3 (d := dd "formula_size" 13) rfl; ⟨_, fd, F, He.glo_ok X G (c.t.d.fact 3 (f := .glo "formula_size") rfl)⟩
theorem t_is_shaped (X : K.In h) (G : h.Ns mainGlobals mg) (c : He.SaysX fa fn ts [] ex w h K) : Top K mg "is_shaped" (top 14) :=
  let ⟨fd, F⟩ := c.t.d.def_ 4 (d := dd "is_shaped" 14) rfl; ⟨_, fd, F, He.glo_ok X G (c.t.d.fact 4 (f := .glo "is_shaped") rfl)⟩
theorem t_is_formula (X : K.In h) (G : h.Ns mainGlobals mg) (c : He.SaysX fa fn ts [] ex w h K) : Top K mg "is_formula" (top 15) :=
  let ⟨fd, F⟩ := c.t.d.def_ 5 (d := dd "is_formula" 15) rfl; ⟨_, fd, F, He.glo_ok X G (c.t.d.fact 5 (f := .glo "is_formula") rfl)⟩
theorem t_bad_input (X : K.In h) (G : h.Ns mainGlobals mg) (c : He.SaysX fa fn ts [] ex w h K) : Top K mg "bad_input" (top 22) :=
  let ⟨fd, F⟩ := c.t.d.def_ 6 (d := dd "bad_input" 22) rfl; ⟨_, fd, F, He.glo_ok X G (c.t.d.fact 6 (f := .glo "bad_input") rfl)⟩
theorem t_bad_let (X : K.In h) (G : h.Ns mainGlobals mg) (c : He.SaysX fa fn ts [] ex w h K) : Top K mg "bad_let" (top 23) :=
  let ⟨fd, F⟩ := c.t.d.def_ 7 (d := dd "bad_let" 23) rfl; ⟨_, fd, F, He.glo_ok X G (c.t.d.fact 7 (f := .glo "bad_let") rfl)⟩
theorem t_bad_out (X : K.In h) (G : h.Ns mainGlobals mg) (c : He.SaysX fa fn ts [] ex w h K) : Top K mg "bad_out" (top 24) :=
  let ⟨fd, F⟩ := c.t.d.def_ 8 (d := dd "bad_out" 24) rfl; ⟨_, fd, F, He.glo_ok X G (c.t.d.fact 8 (f := .glo "bad_out") rfl)⟩
theorem t_first_bad_line (X : K.In h) (G : h.Ns mainGlobals mg) (c : He.SaysX fa fn ts [] ex w h K) : Top K mg "first_bad_line" (top 25) :=
  let ⟨fd, F⟩ := c.t.d.def_ 9 (d := dd "first_bad_line" 25) rfl; ⟨_, fd, F, He.glo_ok X G (c.t.d.fact 9 (f := .glo "first_bad_line") rfl)⟩
theorem t__law_mix (X : K.In h) (G : h.Ns mainGlobals mg) (c : He.SaysX fa fn ts [] ex w h K) : Top K mg "_law_mix" (top 27) :=
  let ⟨fd, F⟩ := c.t.d.def_ 10 (d := dd "_law_mix" 27) rfl; ⟨_, fd, F, He.glo_ok X G (c.t.d.fact 10 (f := .glo "_law_mix") rfl)⟩
theorem t__law_stream (X : K.In h) (G : h.Ns mainGlobals mg) (c : He.SaysX fa fn ts [] ex w h K) : Top K mg "_law_stream" (top 28) :=
  let ⟨fd, F⟩ := c.t.d.def_ 11 (d := dd "_law_stream" 28) rfl; ⟨_, fd, F, He.glo_ok X G (c.t.d.fact 11 (f := .glo "_law_stream") rfl)⟩
theorem t__law_take (X : K.In h) (G : h.Ns mainGlobals mg) (c : He.SaysX fa fn ts [] ex w h K) : Top K mg "_law_take" (top 29) :=
  let ⟨fd, F⟩ := c.t.d.def_ 12 (d := dd "_law_take" 29) rfl; ⟨_, fd, F, He.glo_ok X G (c.t.d.fact 12 (f := .glo "_law_take") rfl)⟩
theorem t__law_name (X : K.In h) (G : h.Ns mainGlobals mg) (c : He.SaysX fa fn ts [] ex w h K) : Top K mg "_law_name" (top 30) :=
  let ⟨fd, F⟩ := c.t.d.def_ 13 (d := dd "_law_name" 30) rfl; ⟨_, fd, F, He.glo_ok X G (c.t.d.fact 13 (f := .glo "_law_name") rfl)⟩
theorem t__law_arity (X : K.In h) (G : h.Ns mainGlobals mg) (c : He.SaysX fa fn ts [] ex w h K) : Top K mg "_law_arity" (top 31) :=
  let ⟨fd, F⟩ := c.t.d.def_ 14 (d := dd "_law_arity" 31) rfl; ⟨_, fd, F, He.glo_ok X G (c.t.d.fact 14 (f := .glo "_law_arity") rfl)⟩
theorem t__law_formula (X : K.In h) (G : h.Ns mainGlobals mg) (c : He.SaysX fa fn ts [] ex w h K) : Top K mg "_law_formula" (top 32) :=
  let ⟨fd, F⟩ := c.t.d.def_ 15 (d := dd "_law_formula" 32) rfl; ⟨_, fd, F, He.glo_ok X G (c.t.d.fact 15 (f := .glo "_law_formula") rfl)⟩
theorem t__law_odd (X : K.In h) (G : h.Ns mainGlobals mg) (c : He.SaysX fa fn ts [] ex w h K) : Top K mg "_law_odd" (top 33) :=
  let ⟨fd, F⟩ := c.t.d.def_ 16 (d := dd "_law_odd" 33) rfl; ⟨_, fd, F, He.glo_ok X G (c.t.d.fact 16 (f := .glo "_law_odd") rfl)⟩
theorem t__law_size (X : K.In h) (G : h.Ns mainGlobals mg) (c : He.SaysX fa fn ts [] ex w h K) : Top K mg "_law_size" (top 34) :=
  let ⟨fd, F⟩ := c.t.d.def_ 17 (d := dd "_law_size" 34) rfl; ⟨_, fd, F, He.glo_ok X G (c.t.d.fact 17 (f := .glo "_law_size") rfl)⟩
theorem t__law_shape (X : K.In h) (G : h.Ns mainGlobals mg) (c : He.SaysX fa fn ts [] ex w h K) : Top K mg "_law_shape" (top 35) :=
  let ⟨fd, F⟩ := c.t.d.def_ 18 (d := dd "_law_shape" 35) rfl; ⟨_, fd, F, He.glo_ok X G (c.t.d.fact 18 (f := .glo "_law_shape") rfl)⟩
theorem t__law_good (X : K.In h) (G : h.Ns mainGlobals mg) (c : He.SaysX fa fn ts [] ex w h K) : Top K mg "_law_good" (top 36) :=
  let ⟨fd, F⟩ := c.t.d.def_ 19 (d := dd "_law_good" 36) rfl; ⟨_, fd, F, He.glo_ok X G (c.t.d.fact 19 (f := .glo "_law_good") rfl)⟩
theorem t__law_good_name (X : K.In h) (G : h.Ns mainGlobals mg) (c : He.SaysX fa fn ts [] ex w h K) : Top K mg "_law_good_name" (top 37) :=
  let ⟨fd, F⟩ := c.t.d.def_ 20 (d := dd "_law_good_name" 37) rfl; ⟨_, fd, F, He.glo_ok X G (c.t.d.fact 20 (f := .glo "_law_good_name") rfl)⟩
theorem t__law_due (X : K.In h) (G : h.Ns mainGlobals mg) (c : He.SaysX fa fn ts [] ex w h K) : Top K mg "_law_due" (top 38) :=
  let ⟨fd, F⟩ := c.t.d.def_ 21 (d := dd "_law_due" 38) rfl; ⟨_, fd, F, He.glo_ok X G (c.t.d.fact 21 (f := .glo "_law_due") rfl)⟩
theorem t__law_data (X : K.In h) (G : h.Ns mainGlobals mg) (c : He.SaysX fa fn ts [] ex w h K) : Top K mg "_law_data" (top 39) :=
  let ⟨fd, F⟩ := c.t.d.def_ 22 (d := dd "_law_data" 39) rfl; ⟨_, fd, F, He.glo_ok X G (c.t.d.fact 22 (f := .glo "_law_data") rfl)⟩
theorem t__law_spoil (X : K.In h) (G : h.Ns mainGlobals mg) (c : He.SaysX fa fn ts [] ex w h K) : Top K mg "_law_spoil" (top 40) :=
  let ⟨fd, F⟩ := c.t.d.def_ 23 (d := dd "_law_spoil" 40) rfl; ⟨_, fd, F, He.glo_ok X G (c.t.d.fact 23 (f := .glo "_law_spoil") rfl)⟩
theorem t__law_holds (X : K.In h) (G : h.Ns mainGlobals mg) (c : He.SaysX fa fn ts [] ex w h K) : Top K mg "_law_holds" (top 41) :=
  let ⟨fd, F⟩ := c.t.d.def_ 24 (d := dd "_law_holds" 41) rfl; ⟨_, fd, F, He.glo_ok X G (c.t.d.fact 24 (f := .glo "_law_holds") rfl)⟩
theorem cl_Text (c : He.SaysX fa fn ts [] ex w h K) : ∀ f ∈ (["width", "inputs", "needs", "lets", "outs"] : List Str), (fun C f => Cls K C ∧ NoAttr K C f) (He.ga K "Text") f := fun f hf => by
  refine ⟨He.cls_ok (c.t.d.fact 47 (f := .cls "Text") rfl), ?_⟩
  simp only [List.mem_cons, List.not_mem_nil, or_false] at hf
  rcases hf with rfl | rfl | rfl | rfl | rfl
  · exact He.noat_ok (c.t.d.fact 49 (f := .noat "Text" "width") rfl)
  · exact He.noat_ok (c.t.d.fact 50 (f := .noat "Text" "inputs") rfl)
  · exact He.noat_ok (c.t.d.fact 51 (f := .noat "Text" "needs") rfl)
  · exact He.noat_ok (c.t.d.fact 52 (f := .noat "Text" "lets") rfl)
  · exact He.noat_ok (c.t.d.fact 53 (f := .noat "Text" "outs") rfl)
theorem x_sub_BadText (c : He.SaysX fa fn ts [] ex w h K) : PySem.W.exmOne K (.ref (He.ga K "BadText")) (.ref (He.ga K "BadText")) = some true := oB_ok (He.ba (He.ba (He.ba (He.ba (He.ba c.more).2).2).2).2).1
theorem x_kit_BadText_NoneshorterError (c : He.SaysX fa fn ts [] ex w h K) : PySem.W.kitOne K (.ref (He.ga K "BadText")) (.ref (He.ga K "NoneshorterError")) = some true := oB_ok (He.ba (He.ba (He.ba (He.ba (He.ba (He.ba c.more).2).2).2).2).2).1
theorem x_kit_BadText_ValueError (c : He.SaysX fa fn ts [] ex w h K) : PySem.W.kitOne K (.ref (He.ga K "BadText")) (.type "ValueError") = some true := oB_ok (He.ba (He.ba (He.ba (He.ba (He.ba (He.ba (He.ba c.more).2).2).2).2).2).2).1
theorem x_kit_BadText_BadBook (c : He.SaysX fa fn ts [] ex w h K) : PySem.W.kitOne K (.ref (He.ga K "BadText")) (.ref (He.ga K "BadBook")) = some false := oB_ok (He.ba (He.ba (He.ba (He.ba (He.ba (He.ba (He.ba c.more).2).2).2).2).2).2).2
def nmE_BadText : List Str := ["self", "line"]
theorem scE_BadText : FnScope nmE_BadText ["self", "line"] (defScope (met 2 0)) := ⟨rfl, rfl, rfl, by decide +kernel, rfl, by decide +kernel, by decide +kernel⟩
theorem e_BadText (G : Gb K w mg) (G0 : h.Ns mainGlobals mg) (X : K.In h) (c : He.SaysX fa fn ts [] ex w h K) {fd : FuncData} (F : FunD K "__init__" "BadText.__init__" (defArgs (met 2 0)) (defBody (met 2 0)) (defScope (met 2 0)) [] [] (He.ma K (He.ga K "BadText") "__init__") fd) : CalE P w K mg base 1 "BadText" (He.ga K "BadText") "line" okNat := by
  have M := (He.glo_ok X G0 (c.t.d.fact 56 (f := .glo "NoneshorterError") rfl))
  have B := baseB_ok (He.ba (He.ba (He.ba c.more).2).2).1
  exact exc_mk (k := 0) (a1 := "self") (a2 := "line") (msg := "invalid text at line ") (by decide +kernel) (excB_ok (He.ba (He.ba c.more).2).1) F scE_BadText (fun _ _ _ _ _ _ us hl => match us, hl with | [_, _], _ => rfl) (He.glo_ok X G0 (c.t.d.fact 55 (f := .glo "BadText") rfl))
    (fun cdv A outer s H E hr => pss_cons (ps_expr (pe_baseInit rfl M B (pa_cons (pv 0) (pa_cons (pe_op op_add_str pe_str (pe_callTy call_str_int rfl G.str (by decide +kernel) (pa_cons (pv 1) pa_nil))) pa_nil)))) (pss_one (ps_ost (pv 0) (pv 1))))
theorem law_fn (X : K.In h) (G0 : h.Ns mainGlobals mg) (c : He.SaysX fa fn ts [] ex w h K) {f : Addr} {fd : FuncData} (F : FunD K "law" "law" (defArgs (top 42)) (defBody (top 42)) (defScope (top 42)) [] [] f fd) : FnOk P w K mg base CX0 14 f fd ["script"] (spD K w Rd.sp_law) := by
  have G := gb X G0 c
  have hcl : CfOk K (fun C f => Cls K C ∧ NoAttr K C f) := fun C f h => h
  obtain ⟨fdE_BadText, FE_BadText⟩ := c.t.d.def_ 27 (d := dm "BadText" "__init__" "BadText.__init__" 2 0) rfl
  have E_BadText : CalE P w K mg base 1 "BadText" (He.ga K "BadText") "line" okNat := e_BadText G G0 X c FE_BadText
  have C_is_name := d_is_name (P := P) (base := base) (k := 0) G (t_is_name X G0 c) (fun ds M Q E h => by repeat' first | (obtain ⟨rfl, _⟩ := h; rfl) | (obtain ⟨_, h⟩ := h)) Rd.r_is_name
  have C_is_value_name := d_is_value_name (P := P) (base := base) (k := 1) G (C_is_name.mono (by omega)) (t_is_value_name X G0 c) (fun ds M Q E h => by repeat' first | (obtain ⟨rfl, _⟩ := h; rfl) | (obtain ⟨_, h⟩ := h)) Rd.r_is_value_name
  have C_bad_input := d_bad_input (P := P) (base := base) (k := 2) G hcl (C_is_value_name.mono (by omega)) (t_bad_input X G0 c) (fun ds M Q E h => by repeat' first | (obtain ⟨rfl, _⟩ := h; rfl) | (obtain ⟨_, h⟩ := h)) (Ry.r_bad_input (fun C f => Cls K C ∧ NoAttr K C f) (He.ga K "Text"))
  have C_word_limit := d_word_limit (P := P) (base := base) (k := 0) G (t_word_limit X G0 c) (fun ds M Q E h => by repeat' first | (obtain ⟨rfl, _⟩ := h; rfl) | (obtain ⟨_, h⟩ := h)) Rd.r_word_limit
  have C_is_shaped : ∀ n, Cal P w K mg base (1 + n) "is_shaped" ["formula", "width", "names", "depth"] (Rd.sp_is_shaped n) := fun n => by
    induction n with
    | zero => exact cal_no (t_is_shaped X G0 c) (fun _ _ _ _ _ _ us hl => match us, hl with | [_, _, _, _], _ => rfl) (fun ds M Q E h => by simp only [Rd.sp_is_shaped, Nat.not_lt_zero, false_and, and_false, exists_false] at h)
    | succ n ih => exact d_is_shaped (k := 1 + n) G (C_word_limit.mono (by omega)) ih (t_is_shaped X G0 c) (fun ds M Q E h => by repeat' first | (obtain ⟨rfl, _⟩ := h; rfl) | (obtain ⟨_, h⟩ := h)) (Rd.r_is_shaped n)
  have C_formula_size : ∀ n, Cal P w K mg base (0 + n) "formula_size" ["formula"] (Rd.sp_size n) := fun n => by
    induction n with
    | zero => exact cal_no (t_formula_size X G0 c) (fun _ _ _ _ _ _ us hl => match us, hl with | [_], _ => rfl) (fun ds M Q E h => by simp only [Rd.sp_size, Nat.not_lt_zero, false_and, and_false, exists_false] at h)
    | succ n ih => exact d_formula_size (k := 0 + n) G ih (t_formula_size X G0 c) (fun ds M Q E h => by repeat' first | (obtain ⟨rfl, _⟩ := h; rfl) | (obtain ⟨_, h⟩ := h)) (Rd.r_formula_size n)
  have C_is_formula := d_is_formula (P := P) (base := base) (k := 8) G ((C_is_shaped 7).mono (by omega)) ((C_formula_size 7).mono (by omega)) (t_is_formula X G0 c) (fun ds M Q E h => by repeat' first | (obtain ⟨rfl, _⟩ := h; rfl) | (obtain ⟨_, h⟩ := h)) Rd.r_is_formula
  have C_bad_let := d_bad_let (P := P) (base := base) (k := 9) G hcl (C_is_value_name.mono (by omega)) (C_is_formula.mono (by omega)) (t_bad_let X G0 c) (fun ds M Q E h => by repeat' first | (obtain ⟨rfl, _⟩ := h; rfl) | (obtain ⟨_, h⟩ := h)) (Ry.r_bad_let (fun C f => Cls K C ∧ NoAttr K C f) (He.ga K "Text"))
  have C_bad_out := d_bad_out (P := P) (base := base) (k := 9) G hcl (C_is_formula.mono (by omega)) (t_bad_out X G0 c) (fun ds M Q E h => by repeat' first | (obtain ⟨rfl, _⟩ := h; rfl) | (obtain ⟨_, h⟩ := h)) (Ry.r_bad_out (fun C f => Cls K C ∧ NoAttr K C f) (He.ga K "Text"))
  have C_first_bad_line := d_first_bad_line (P := P) (base := base) (k := 10) G hcl (C_bad_input.mono (by omega)) (C_is_formula.mono (by omega)) (C_bad_let.mono (by omega)) (C_bad_out.mono (by omega)) (t_first_bad_line X G0 c) (fun ds M Q E h => by repeat' first | (obtain ⟨rfl, _⟩ := h; rfl) | (obtain ⟨_, h⟩ := h)) (Ry.r_first_bad_line (fun C f => Cls K C ∧ NoAttr K C f) (He.ga K "Text"))
  obtain ⟨fd_Text__init__, F_Text__init__⟩ := c.t.d.def_ 26 (d := dm "Text" "__init__" "Text.__init__" 21 0) rfl
  have C_Text__init__ := d_Text__init__ (P := P) (base := base) (k := 10) G hcl (He.glo_ok X G0 (c.t.d.fact 55 (f := .glo "BadText") rfl)) (E_BadText.mono (by omega)) (C_first_bad_line.mono (by omega)) F_Text__init__ (He.mkr_ok (c.t.d.fact 48 (f := .mkr "Text") rfl)) (He.glo_ok X G0 (c.t.d.fact 46 (f := .glo "Text") rfl)) (fun ds M Q E h => by repeat' first | (obtain ⟨rfl, _⟩ := h; rfl) | (obtain ⟨_, h⟩ := h)) (Ry.r_Text__init___v3 (fun C f => Cls K C ∧ NoAttr K C f) (He.ga K "Text") (He.ga K "BadText"))
  have C__law_mix := d__law_mix (P := P) (base := base) (k := 0) G (t__law_mix X G0 c) (fun ds M Q E h => by repeat' first | (obtain ⟨rfl, _⟩ := h; rfl) | (obtain ⟨_, h⟩ := h)) Rd.r__law_mix
  have C__law_stream := d__law_stream (P := P) (base := base) (k := 1) G (C__law_mix.mono (by omega)) (t__law_stream X G0 c) (fun ds M Q E h => by repeat' first | (obtain ⟨rfl, _⟩ := h; rfl) | (obtain ⟨_, h⟩ := h)) Rd.r__law_stream
  have C__law_take := d__law_take (P := P) (base := base) (k := 0) G (t__law_take X G0 c) (fun ds M Q E h => by repeat' first | (obtain ⟨rfl, _⟩ := h; rfl) | (obtain ⟨_, h⟩ := h)) Rd.r__law_take
  have C__law_name := d__law_name (P := P) (base := base) (k := 1) G (C__law_take.mono (by omega)) (t__law_name X G0 c) (fun ds M Q E h => by repeat' first | (obtain ⟨rfl, _⟩ := h; rfl) | (obtain ⟨_, h⟩ := h)) Ry.r__law_name
  have C__law_arity := d__law_arity (P := P) (base := base) (k := 0) G (t__law_arity X G0 c) (fun ds M Q E h => by repeat' first | (obtain ⟨rfl, _⟩ := h; rfl) | (obtain ⟨_, h⟩ := h)) Ry.r__law_arity_v2
  have C__law_formula : ∀ n, Cal P w K mg base (1 + n) "_law_formula" ["numbers", "cursor", "names", "width", "depth"] (Ry.sp_formula2 n) := fun n => by
    induction n with
    | zero => exact cal_no (t__law_formula X G0 c) (fun _ _ _ _ _ _ us hl => match us, hl with | [_, _, _, _, _], _ => rfl) (fun ds M Q E h => by simp only [Ry.sp_formula2, Nat.not_lt_zero, false_and, and_false, exists_false] at h)
    | succ n ih => exact d__law_formula (k := 1 + n) G (C__law_take.mono (by omega)) (C__law_arity.mono (by omega)) ih (t__law_formula X G0 c) (fun ds M Q E h => by repeat' first | (obtain ⟨rfl, _⟩ := h; rfl) | (obtain ⟨_, h⟩ := h)) (Ry.r__law_formula_v2 n)
  have C__law_data := d__law_data (P := P) (base := base) (k := 5) G (C__law_take.mono (by omega)) (C__law_name.mono (by omega)) ((C__law_formula 4).mono (by omega)) (t__law_data X G0 c) (fun ds M Q E h => by repeat' first | (obtain ⟨rfl, _⟩ := h; rfl) | (obtain ⟨_, h⟩ := h)) Ry.r__law_data
  have C__law_odd := d__law_odd (P := P) (base := base) (k := 0) G (t__law_odd X G0 c) (fun ds M Q E h => by repeat' first | (obtain ⟨rfl, _⟩ := h; rfl) | (obtain ⟨_, h⟩ := h)) Ry.r__law_odd
  have C__law_spoil := d__law_spoil (P := P) (base := base) (k := 1) G (C__law_odd.mono (by omega)) (C__law_take.mono (by omega)) (t__law_spoil X G0 c) (fun ds M Q E h => by repeat' first | (obtain ⟨rfl, _⟩ := h; rfl) | (obtain ⟨_, h⟩ := h)) Ry.r__law_spoil
  have C__law_good_name := d__law_good_name (P := P) (base := base) (k := 1) G (C__law_arity.mono (by omega)) (t__law_good_name X G0 c) (fun ds M Q E h => by repeat' first | (obtain ⟨rfl, _⟩ := h; rfl) | (obtain ⟨_, h⟩ := h)) Ry.r__law_good_name
  have C__law_shape : ∀ n, Cal P w K mg base (1 + n) "_law_shape" ["formula", "width", "names", "depth"] (Ry.sp_lshape n) := fun n => by
    induction n with
    | zero => exact cal_no (t__law_shape X G0 c) (fun _ _ _ _ _ _ us hl => match us, hl with | [_, _, _, _], _ => rfl) (fun ds M Q E h => by simp only [Ry.sp_lshape, Nat.not_lt_zero, false_and, and_false, exists_false] at h)
    | succ n ih => exact d__law_shape (k := 1 + n) G (C__law_arity.mono (by omega)) ih (t__law_shape X G0 c) (fun ds M Q E h => by repeat' first | (obtain ⟨rfl, _⟩ := h; rfl) | (obtain ⟨_, h⟩ := h)) (Ry.r__law_shape n)
  have C__law_size : ∀ n, Cal P w K mg base (0 + n) "_law_size" ["formula"] (Ry.sp_size2 n) := fun n => by
    induction n with
    | zero => exact cal_no (t__law_size X G0 c) (fun _ _ _ _ _ _ us hl => match us, hl with | [_], _ => rfl) (fun ds M Q E h => by simp only [Ry.sp_size2, Nat.not_lt_zero, false_and, and_false, exists_false] at h)
    | succ n ih => exact d__law_size (k := 0 + n) G ih (t__law_size X G0 c) (fun ds M Q E h => by repeat' first | (obtain ⟨rfl, _⟩ := h; rfl) | (obtain ⟨_, h⟩ := h)) (Ry.r__law_size_v2 n)
  have C__law_good := d__law_good (P := P) (base := base) (k := 8) G ((C__law_shape 7).mono (by omega)) ((C__law_size 7).mono (by omega)) (t__law_good X G0 c) (fun ds M Q E h => by repeat' first | (obtain ⟨rfl, _⟩ := h; rfl) | (obtain ⟨_, h⟩ := h)) Ry.r__law_good
  have C__law_due := d__law_due (P := P) (base := base) (k := 9) G (C__law_good_name.mono (by omega)) (C__law_good.mono (by omega)) (t__law_due X G0 c) (fun ds M Q E h => by repeat' first | (obtain ⟨rfl, _⟩ := h; rfl) | (obtain ⟨_, h⟩ := h)) Ry.r__law_due
  have C__law_holds := d__law_holds (P := P) (base := base) (k := 0) G hcl (t__law_holds X G0 c) (fun ds M Q E h => by repeat' first | (obtain ⟨rfl, _⟩ := h; rfl) | (obtain ⟨_, h⟩ := h)) (Ry.r__law_holds (fun C f => Cls K C ∧ NoAttr K C f) (He.ga K "Text"))
  exact d_law (k := 12) G (He.glo_ok X G0 (c.t.d.fact 55 (f := .glo "BadText") rfl)) (He.glo_ok X G0 (c.t.d.fact 56 (f := .glo "NoneshorterError") rfl)) (He.glo_ok X G0 (c.t.d.fact 54 (f := .glo "BadBook") rfl)) (xcB_ok (He.ba (He.ba (He.ba (He.ba c.more).2).2).2).1).xf (xcB_ok (He.ba (He.ba (He.ba (He.ba c.more).2).2).2).1).ec (xcB_ok (He.ba (He.ba (He.ba (He.ba c.more).2).2).2).1).no (C_Text__init__.mono (by omega)) (C__law_stream.mono (by omega)) (C__law_data.mono (by omega)) (C__law_take.mono (by omega)) (C__law_spoil.mono (by omega)) (C__law_due.mono (by omega)) (C__law_holds.mono (by omega)) F (fun ds M Q E h => by repeat' first | (obtain ⟨rfl, _⟩ := h; rfl) | (obtain ⟨_, h⟩ := h)) (Ry.r_law_v3 (fun C f => Cls K C ∧ NoAttr K C f) (He.ga K "Text") (He.ga K "BadText") (He.ga K "NoneshorterError") (He.ga K "BadBook") _ _ _ _ (cl_Text c) (x_sub_BadText c) (x_kit_BadText_NoneshorterError c) (x_kit_BadText_ValueError c) (x_kit_BadText_BadBook c))
theorem facts {f : Addr} (X : K.In h) (G : h.Ns mainGlobals mg) (hfa : mg ("law" : Str) = some (.ref f)) (c : He.SaysX fa fn ts [] ex w h K) :
    ∃ fd : FuncData, (∀ (s : Shared) (v : Value), BindsTo s fd ⟨[v], []⟩ [("script", v)]) ∧ ∀ base : Heap, FnOk P w K mg base CX0 14 f fd ["script"] (spD K w Rd.sp_law) := by
  obtain ⟨fd, F⟩ := c.t.d.def_ 25 (d := dd "law" 42) rfl
  have e := hfa.symm.trans (He.glo_ok X G (c.t.d.fact 25 (f := .glo "law") rfl))
  cases e
  have b := FunD.bindsA (ps := ["script"]) F fun _ _ _ _ _ _ us hl => match us, hl with | [_], _ => rfl
  exact ⟨fd, fun s v => b s [v] rfl, fun base => law_fn X G c F⟩
end
end K86e
open PySem PySem.W PySem.Calls PyProof.Rows
theorem PySem.Challenge.cw_noneshorter_k86_text_lines_holds : PySem.Challenge.rw_noneshorter_k86_text_lines.Holds := by
  w_on; o_law
  refine HandSHeadRun.head_any (r := OpenLaw.row PySem.Challenge.rw_noneshorter_k86_text_lines) (q := view (OpenLaw.row PySem.Challenge.rw_noneshorter_k86_text_lines).prog [42]) (H := K86e.hk) (ob := K86e.ob) (M := 3000) (loose := K86e.names) (d := HandSHeadRun.topDef (OpenLaw.row PySem.Challenge.rw_noneshorter_k86_text_lines).prog 42) (kwd := []) K86e.ob_eq
    (by kernel_rfl) (fun s => by kernel_rfl) K86e.run (by kernel_rfl) (by kernel_rfl) (by kernel_rfl) (by rfl) (by first | assumption | decide +kernel) (by decide +kernel) ⟨rfl, rfl, rfl, rfl, rfl, by decide +kernel⟩ ?hw ?hc
  case hw => w_witness2
  case hc =>
    refine L2.walk_ofE (l := PySem.Challenge.rw_noneshorter_k86_text_lines) (n := 63) (k := 14) (x := "script") (CX := L2.CX0) rfl (by decide) (by kernel_rfl) ⟨rfl, by decide, by decide⟩ ?F (fun _ _ _ _ z => z)
    intro w mg fa h Y G hmg0
    obtain ⟨K, KX, c⟩ := Y
    have hmg : mg ("law" : PySem.Str) = some (.ref fa) := by
      have e : (HandSHeadRun.topDef (OpenLaw.row PySem.Challenge.rw_noneshorter_k86_text_lines).prog 42).name = ("law" : PySem.Str) := by kernel_rfl
      rw [← e]
      exact hmg0
    obtain ⟨fd, hb, hF⟩ := K86e.facts (P := (PySem.Challenge.rw_noneshorter_k86_text_lines).prog) (w := w) KX G hmg c
    exact ⟨K, fd, DH.spD K w Rd.sp_law, KX, hb, fun H a ns hl ho hS => DH.start_sp ho hS fun Q E hQ => ⟨ns, rfl, hl, hQ⟩, fun base _ _ => hF base⟩

