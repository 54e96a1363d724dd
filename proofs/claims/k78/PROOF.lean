import PyProof.Rows.All
import Wide.All
import OpenK.AllK
import Wide.FinOn
import HandS.ForMost
import HandS.IsInst
import HandS.TupAny
import HandS.Zip
import HandS.Rev
import HandS.NoneIn
import HandS.Flow
import HandS.Defaults
import HandS.More
import HandS.WordsExc
import HandS.TupMul
import HandS.DictComp
import HandS.DeepEq
import KE.KDictCopyH
import KE.GoesZip
import KE.GoesMore
import HandS.Head0
import HandS.Head1
import HandS.Head2
import HandS.HeadEnd
import HandS.HeadHook1
import HandS.HeadHook2
import HandS.HeadHook3
import HandS.HeadHook4
import HandS.ExcInit
import HandS.ExcOwn
import HandS.ExcField
import HandS.ExcIs
import HandS.Style
import HandS.SetFor
import HandS.Strs
import HandS.Star
import HandS.FStr
import HandS.Conv
import HandS.Iter
import HandS.GenCall
import PyProof.ForAppend
import HandS.GenList
import HandS.HotCalls
import PySem.Challenge.RW_noneshorter_k78_live_sets
set_option Elab.async false
set_option linter.all false
set_option autoImplicit false
set_option maxRecDepth 100000
set_option maxHeartbeats 2000000
/-! Deep readings over the hand layer: values whose tuples are data (D), a heap of lists, dicts and instances that hold such values (Mm). -/
namespace DH
open PySem PySem.Spec PyProof.Rows L2

inductive D where
  | non | bl (b : Bool) | int (i : Int) | str (x : Str) | ref (a : Addr) | ty (n : String) | tup (xs : List D) | kd (kvs : List (Str × D)) | fl (xs : List D)

/-- the scalars -/
inductive Flt : D → V → Prop
  | non : Flt .non .non
  | bl (b : Bool) : Flt (.bl b) (.bl b)
  | int (i : Int) : Flt (.int i) (.int i)
  | str (x : Str) : Flt (.str x) (.str x)
/-- a written dict -/
structure KdAt (K : PySem.W.Frag) (w : World) (a : Addr) (kvs : List (Str × D)) : Prop where
  kd : ∃ es n, KDict K w a es n ∧ es.size = kvs.length
  small : kvs.length ≤ 1000
  hit : ∀ z d, kvs.lookup z = some d → ∃ u v, PySem.W.nsIn K a z = some (some u) ∧ RelV v u ∧ Flt d v
  miss : ∀ z, kvs.lookup z = none → PySem.W.nsIn K a z = some none

/-- a list that nobody changes: locked, or written by the top -/
def FzL (K : PySem.W.Frag) (H : Hp) (a : Addr) (xs : List V) : Prop := (∃ o, H a = some (.frz o (.lst xs))) ∨
  ∃ (o : Obj) (its : Array Value) (n : Nat), K.lookup a = some o ∧ o.cls = .type "list" ∧ o.dict = none ∧ o.data = .seq its n ∧ its.size ≤ sizeLine ∧ Vals xs its.toList
theorem FzL.sq {K : PySem.W.Frag} {H : Hp} {a : Addr} {xs : List V} (h : FzL K H a xs) : SqL K H a xs := by
  rcases h with ⟨o, h⟩ | h
  · exact .inl (.inr ⟨o, h⟩)
  · exact .inr h
mutual
inductive Rep (K : PySem.W.Frag) (w : World) (H : Hp) : D → V → Prop
  | non : Rep K w H .non .non
  | bl (b : Bool) : Rep K w H (.bl b) (.bl b)
  | int (i : Int) : Rep K w H (.int i) (.int i)
  | str (x : Str) : Rep K w H (.str x) (.str x)
  | ref (a : Addr) : Rep K w H (.ref a) (.ref a)
  | ty (n : String) : Rep K w H (.ty n) (.ty n)
  | tup {a : Addr} {ds : List D} {xs : List V} : SqT K H a xs → RepL K w H ds xs → Rep K w H (.tup ds) (.ref a)
  | kd {a : Addr} {kvs : List (Str × D)} : KdAt K w a kvs → Rep K w H (.kd kvs) (.ref a)
  | fl {a : Addr} {ds : List D} {xs : List V} : FzL K H a xs → RepL K w H ds xs → Rep K w H (.fl ds) (.ref a)
inductive RepL (K : PySem.W.Frag) (w : World) (H : Hp) : List D → List V → Prop
  | nil : RepL K w H [] []
  | cons {d : D} {ds : List D} {x : V} {xs : List V} : Rep K w H d x → RepL K w H ds xs → RepL K w H (d :: ds) (x :: xs)
end

/-- tuples and locked things stand -/
structure Tx (K : PySem.W.Frag) (H H' : Hp) : Prop where
  t : ∀ a xs, SqT K H a xs → SqT K H' a xs
  f : ∀ a o u, H a = some (.frz o u) → H' a = some (.frz o u)
theorem Tx.refl {K : PySem.W.Frag} (H : Hp) : Tx K H H := ⟨fun _ _ h => h, fun _ _ _ h => h⟩
theorem Tx.trans {K : PySem.W.Frag} {H H1 H2 : Hp} (a : Tx K H H1) (b : Tx K H1 H2) : Tx K H H2 := ⟨fun c x h => b.t c x (a.t c x h), fun c o u h => b.f c o u (a.f c o u h)⟩
theorem Tx.new {K : PySem.W.Frag} {H : Hp} {p : Addr} {o : HO} (h : H p = none) : Tx K H (upd H p o) := ⟨fun a xs e => by
  rcases e with (e | ⟨u, e⟩) | e
  · exact .inl (.inl (by rw [upd_ne (ne_of_none e h)]; exact e))
  · exact .inl (.inr ⟨u, by rw [upd_ne (ne_of_none e h)]; exact e⟩)
  · exact .inr e, fun a u v e => by rw [upd_ne (ne_of_none e h)]; exact e⟩
/-- no tuple, no locked thing stands there -/
def notT : HO → Prop
  | .tup _ => False
  | .frz _ _ => False
  | _ => True
theorem Tx.mut {K : PySem.W.Frag} {H : Hp} {p : Addr} {o u : HO} (h : H p = some u) (n : notT u) : Tx K H (upd H p o) := ⟨fun a xs e => by
  rcases e with (e | ⟨v, e⟩) | e
  · refine .inl (.inl ?_)
    rw [upd_ne (ne_of e h (fun z => by subst z; exact n))]
    exact e
  · refine .inl (.inr ⟨v, ?_⟩)
    rw [upd_ne (ne_of e h (fun z => by subst z; exact n))]
    exact e
  · exact .inr e, fun a v x e => by rw [upd_ne (ne_of e h (fun z => by subst z; exact n))]; exact e⟩
theorem FzL.mono {K : PySem.W.Frag} {H H' : Hp} {a : Addr} {xs : List V} (h : FzL K H a xs) (t : Tx K H H') : FzL K H' a xs := by
  rcases h with ⟨o, h⟩ | h
  · exact .inl ⟨o, t.f _ _ _ h⟩
  · exact .inr h

section
variable {K : PySem.W.Frag} {w : World} {H H' : Hp}
mutual
theorem Rep.mono (t : Tx K H H') : ∀ {d : D} {v : V}, Rep K w H d v → Rep K w H' d v
  | _, _, .non => .non
  | _, _, .bl b => .bl b
  | _, _, .int i => .int i
  | _, _, .str x => .str x
  | _, _, .ref a => .ref a
  | _, _, .ty n => .ty n
  | _, _, .tup h l => .tup (t.t _ _ h) (RepL.mono t l)
  | _, _, .fl h l => .fl (h.mono t) (RepL.mono t l)
  | _, _, .kd h => .kd h
theorem RepL.mono (t : Tx K H H') : ∀ {ds : List D} {xs : List V}, RepL K w H ds xs → RepL K w H' ds xs
  | _, _, .nil => .nil
  | _, _, .cons h l => .cons (Rep.mono t h) (RepL.mono t l)
end
theorem RepL.length : ∀ {ds : List D} {xs : List V}, RepL K w H ds xs → xs.length = ds.length
  | _, _, .nil => rfl
  | _, _, .cons _ l => congrArg (· + 1) (RepL.length l)
theorem RepL.get : ∀ {ds : List D} {xs : List V} {i : Nat} {d : D}, RepL K w H ds xs → ds[i]? = some d → ∃ x, xs[i]? = some x ∧ Rep K w H d x
  | _, _, _, _, .nil, e => by simp at e
  | _, _, 0, _, .cons h _, e => by simp at e; subst e; exact ⟨_, rfl, h⟩
  | _, _, i + 1, _, .cons _ l, e => by
    obtain ⟨x, h1, h2⟩ := RepL.get (i := i) l (by simpa using e)
    exact ⟨x, by simpa using h1, h2⟩
theorem RepL.append : ∀ {ds es : List D} {xs ys : List V}, RepL K w H ds xs → RepL K w H es ys → RepL K w H (ds ++ es) (xs ++ ys)
  | _, _, _, _, .nil, l => l
  | _, _, _, _, .cons h t, l => .cons h (RepL.append t l)
theorem RepL.one {d : D} {x : V} (h : Rep K w H d x) : RepL K w H [d] [x] := .cons h .nil
theorem RepL.set {d : D} {x : V} (r : Rep K w H d x) : ∀ {ds : List D} {xs : List V} (i : Nat), RepL K w H ds xs → RepL K w H (ds.set i d) (xs.set i x)
  | _, _, _, .nil => .nil
  | _, _, 0, .cons _ t => .cons r t
  | _, _, i + 1, .cons h t => .cons h (RepL.set r i t)
theorem RepL.take : ∀ {ds : List D} {xs : List V} (n : Nat), RepL K w H ds xs → RepL K w H (ds.take n) (xs.take n)
  | _, _, 0, _ => .nil
  | _, _, _ + 1, .nil => .nil
  | _, _, n + 1, .cons h t => .cons h (RepL.take n t)
theorem RepL.drop : ∀ {ds : List D} {xs : List V} (n : Nat), RepL K w H ds xs → RepL K w H (ds.drop n) (xs.drop n)
  | _, _, 0, l => l
  | _, _, _ + 1, .nil => .nil
  | _, _, n + 1, .cons _ t => RepL.drop n t
theorem RepL.reverse : ∀ {ds : List D} {xs : List V}, RepL K w H ds xs → RepL K w H ds.reverse xs.reverse
  | _, _, .nil => .nil
  | _, _, .cons h t => by
    rw [List.reverse_cons, List.reverse_cons]
    exact RepL.append (RepL.reverse t) (.one h)
theorem RepL.ints : ∀ (ns : List Int), RepL K w H (ns.map D.int) (ns.map V.int)
  | [] => .nil
  | n :: r => .cons (.int n) (RepL.ints r)
end

/-- what stands at an address that may change -/
inductive MO where
  | lst (ds : List D) | dk (kvs : List (Key × D)) | ins (C : Addr) (fs : List (Str × D)) | xd (fs : List (Str × D))
abbrev Mm := Addr → Option MO
def updM (M : Mm) (a : Addr) (o : MO) : Mm := fun b => if b = a then some o else M b
theorem updM_same {M : Mm} {a : Addr} {o : MO} : updM M a o a = some o := by unfold updM; rw [if_pos rfl]
theorem updM_ne {M : Mm} {a b : Addr} {o : MO} (h : b ≠ a) : updM M a o b = M b := by unfold updM; rw [if_neg h]
/-- fields, entries -/
inductive RepF {κ : Type} (K : PySem.W.Frag) (w : World) (H : Hp) : List (κ × D) → List (κ × V) → Prop
  | nil : RepF K w H [] []
  | cons {k : κ} {d : D} {x : V} {fs : List (κ × D)} {gs : List (κ × V)} : Rep K w H d x → RepF K w H fs gs → RepF K w H ((k, d) :: fs) ((k, x) :: gs)
def HRep (K : PySem.W.Frag) (w : World) (H : Hp) (a : Addr) : MO → Prop
  | .lst ds => ∃ xs, H a = some (.lst xs) ∧ RepL K w H ds xs
  | .dk kvs => ∃ gs, H a = some (.dK gs) ∧ RepF K w H kvs gs
  | .ins C fs => ∃ dx gs, H a = some (.ins C dx gs) ∧ RepF K w H fs gs
  | .xd fs => ∃ gs, H a = some (.xd gs) ∧ RepF K w H fs gs
def Rm (K : PySem.W.Frag) (w : World) (H : Hp) (M : Mm) : Prop := ∀ a o, M a = some o → HRep K w H a o
section
variable {K : PySem.W.Frag} {w : World} {H H' : Hp} {M : Mm}
theorem RepF.mono {κ : Type} (t : Tx K H H') : ∀ {fs : List (κ × D)} {gs : List (κ × V)}, RepF K w H fs gs → RepF K w H' fs gs
  | _, _, .nil => .nil
  | _, _, .cons h l => .cons (h.mono t) (RepF.mono t l)
theorem RepF.length {κ : Type} : ∀ {fs : List (κ × D)} {gs : List (κ × V)}, RepF K w H fs gs → gs.length = fs.length
  | _, _, .nil => rfl
  | _, _, .cons _ l => congrArg (· + 1) (RepF.length l)
theorem RepF.lookup {κ : Type} [BEq κ] : ∀ {fs : List (κ × D)} {gs : List (κ × V)} {f : κ} {d : D}, RepF K w H fs gs → fs.lookup f = some d → ∃ x, gs.lookup f = some x ∧ Rep K w H d x
  | _, _, f, _, .nil, e => by simp at e
  | _, _, f, _, .cons (k := k) h l, e => by
    rw [List.lookup_cons] at e
    rw [List.lookup_cons]
    cases q : (f == k) with
    | true => rw [q] at e; cases e; exact ⟨_, rfl, h⟩
    | false => rw [q] at e; exact RepF.lookup l e
theorem RepF.lookup_none {κ : Type} [BEq κ] : ∀ {fs : List (κ × D)} {gs : List (κ × V)} {f : κ}, RepF K w H fs gs → fs.lookup f = none → gs.lookup f = none
  | _, _, f, .nil, e => rfl
  | _, _, f, .cons (k := k) h l, e => by
    rw [List.lookup_cons] at e
    rw [List.lookup_cons]
    cases q : (f == k) with
    | true => rw [q] at e; cases e
    | false => rw [q] at e; exact RepF.lookup_none l e
theorem HRep.there {a : Addr} {o : MO} (h : HRep K w H a o) : ∃ u, H a = some u ∧ notT u := by
  cases o with
  | lst ds => obtain ⟨xs, e, _⟩ := h; exact ⟨_, e, trivial⟩
  | dk kvs => obtain ⟨gs, e, _⟩ := h; exact ⟨_, e, trivial⟩
  | ins C fs => obtain ⟨dx, gs, e, _⟩ := h; exact ⟨_, e, trivial⟩
  | xd fs => obtain ⟨gs, e, _⟩ := h; exact ⟨_, e, trivial⟩
theorem HRep.keep {a : Addr} {o : MO} (h : HRep K w H a o) (e : H' a = H a) (t : Tx K H H') : HRep K w H' a o := by
  cases o with
  | lst ds => obtain ⟨xs, q, r⟩ := h; exact ⟨xs, e.trans q, r.mono t⟩
  | dk kvs => obtain ⟨gs, q, r⟩ := h; exact ⟨gs, e.trans q, r.mono t⟩
  | ins C fs => obtain ⟨dx, gs, q, r⟩ := h; exact ⟨dx, gs, e.trans q, r.mono t⟩
  | xd fs => obtain ⟨gs, q, r⟩ := h; exact ⟨gs, e.trans q, r.mono t⟩
theorem Rm.free (r : Rm K w H M) {p : Addr} (h : H p = none) : M p = none := by
  cases e : M p with
  | none => rfl
  | some o =>
    obtain ⟨u, q, _⟩ := (r p o e).there
    rw [h] at q; cases q
/-- a thing is laid or changed at p -/
theorem Rm.upd (r : Rm K w H M) {p : Addr} {ho : HO} {mo : MO} (t : Tx K H (L2.upd H p ho)) (n : HRep K w (L2.upd H p ho) p mo) : Rm K w (L2.upd H p ho) (updM M p mo) := fun a o e => by
  by_cases h : a = p
  · subst h; rw [updM_same] at e; cases e; exact n
  · rw [updM_ne h] at e
    exact (r a o e).keep (upd_ne h) t
/-- a thing is laid that is not followed -/
theorem Rm.keepNew (r : Rm K w H M) {p : Addr} {ho : HO} (h : H p = none) : Rm K w (L2.upd H p ho) M := fun a o e => by
  have hn : a ≠ p := fun z => by subst z; rw [r.free h] at e; cases e
  exact (r a o e).keep (upd_ne hn) (Tx.new h)
theorem Rm.mono (r : Rm K w H M) {M' : Mm} (h : ∀ a o, M' a = some o → M a = some o) : Rm K w H M' := fun a o e => r a o (h a o e)
end

abbrev DEnv := List (Option D)
abbrev DQ := D → Mm → Prop
abbrev DE := DEnv → Mm → DQ → Prop
abbrev DT := DEnv → Mm → (Bool → Mm → Prop) → Prop
abbrev DA := DEnv → Mm → (List D → Mm → Prop) → Prop
structure DEnds where
  nx : DEnv → Mm → Prop
  rt : DQ
  bk : DEnv → Mm → Prop := fun _ _ => False
  ct : DEnv → Mm → Prop := fun _ _ => False
  xc : Value → Option Addr → DEnv → Mm → Prop := fun _ _ _ _ => False
abbrev DS := DEnds → DEnv → Mm → Prop
abbrev DX := Value → Option Addr → Mm → Prop
abbrev DSp := List D → Mm → DQ → DX → Prop

structure Sl (K : PySem.W.Frag) (w : World) (H : Hp) (σ : L2.St) (E : DEnv) : Prop where
  len : σ.length = E.length
  at_ : ∀ (i : Nat) d, E[i]? = some (some d) → ∃ v, σ[i]? = some (some v) ∧ Rep K w H d v
section
variable {K : PySem.W.Frag} {w : World} {H H' : Hp} {M : Mm} {σ : L2.St} {E : DEnv}
theorem Sl.mono (s : Sl K w H σ E) (t : Tx K H H') : Sl K w H' σ E := ⟨s.len, fun i d e => let ⟨v, h, r⟩ := s.at_ i d e; ⟨v, h, r.mono t⟩⟩
theorem Sl.set (s : Sl K w H σ E) {d : D} {v : V} (r : Rep K w H d v) (i : Nat) : Sl K w H (σ.set i (some v)) (E.set i (some d)) := by
  refine ⟨by rw [List.length_set, List.length_set, s.len], fun j e h => ?_⟩
  by_cases hj : i = j
  · subst hj
    have hl : i < E.length := by
      have := (List.getElem?_eq_some_iff.mp h).1
      rwa [List.length_set] at this
    rw [List.getElem?_set_self hl] at h
    cases h
    exact ⟨v, List.getElem?_set_self (by rw [s.len]; exact hl), r⟩
  · rw [List.getElem?_set_ne hj] at h
    obtain ⟨x, q, rr⟩ := s.at_ j e h
    exact ⟨x, by rw [List.getElem?_set_ne hj]; exact q, rr⟩
end
def wipeD (E : DEnv) : List Nat → DEnv
  | [] => E
  | v :: vs => (wipeD E vs).set v none
theorem Sl.wipe {K : PySem.W.Frag} {w : World} {H : Hp} {σ : L2.St} {E : DEnv} (s : Sl K w H σ E) : ∀ vs : List Nat, Sl K w H (L2.wipe σ vs) (wipeD E vs)
  | [] => s
  | v :: vs => by
    have h := Sl.wipe s vs
    refine ⟨?_, fun j e q => ?_⟩
    · show ((L2.wipe σ vs).set v none).length = ((wipeD E vs).set v none).length
      rw [List.length_set, List.length_set, h.len]
    · have q : ((wipeD E vs).set v none)[j]? = some (some e) := q
      show ∃ x, ((L2.wipe σ vs).set v none)[j]? = some (some x) ∧ _
      by_cases hj : v = j
      · subst hj
        by_cases hl : v < (wipeD E vs).length
        · rw [List.getElem?_set_self hl] at q; cases q
        · rw [List.getElem?_eq_none (by rw [List.length_set]; omega)] at q; cases q
      · rw [List.getElem?_set_ne hj] at q
        rw [List.getElem?_set_ne hj]
        exact h.at_ j e q

/-- the continuation at the deep level entails the one above the heap -/
def Kc (K : PySem.W.Frag) (w : World) (H : Hp) (Q' : DQ) (Q : VK) : Prop := ∀ v H' d M', Tx K H H' → Rm K w H' M' → Rep K w H' d v → Q' d M' → Q v H'
def tD (K : PySem.W.Frag) (w : World) (de : DE) : TE := fun σ H Q => ∃ E M Q', Sl K w H σ E ∧ Rm K w H M ∧ de E M Q' ∧ Kc K w H Q' Q
def ttD (K : PySem.W.Frag) (w : World) (dt : DT) : TT := fun σ H Q => ∃ E M Q', Sl K w H σ E ∧ Rm K w H M ∧ dt E M Q' ∧ ∀ b H' M', Tx K H H' → Rm K w H' M' → Q' b M' → Q b H'
def taD (K : PySem.W.Frag) (w : World) (da : DA) : TA := fun σ H Q => ∃ E M Q', Sl K w H σ E ∧ Rm K w H M ∧ da E M Q' ∧ ∀ vs H' ds M', Tx K H H' → Rm K w H' M' → RepL K w H' ds vs → Q' ds M' → Q vs H'
structure Kn (K : PySem.W.Frag) (w : World) (W : WX) (H : Hp) (D' : DEnds) (D : Ends) : Prop where
  nx : ∀ σ' H' E' M', Tx K H H' → Sl K w H' σ' E' → Rm K w H' M' → D'.nx E' M' → D.nx σ' H'
  rt : ∀ v H' d M', Tx K H H' → Rm K w H' M' → Rep K w H' d v → D'.rt d M' → D.rt v H'
  bk : ∀ σ' H' E' M', Tx K H H' → Sl K w H' σ' E' → Rm K w H' M' → D'.bk E' M' → D.bk σ' H'
  ct : ∀ σ' H' E' M', Tx K H H' → Sl K w H' σ' E' → Rm K w H' M' → D'.ct E' M' → D.ct σ' H'
  xc : ∀ cls d σ' H' E' M', Tx K H H' → Sl K w H' σ' E' → Rm K w H' M' → D'.xc cls d E' M' → W cls d σ' H'
def tsD (K : PySem.W.Frag) (w : World) (W : WX) (ds : DS) : TS := fun D σ H => ∃ E M D', Sl K w H σ E ∧ Rm K w H M ∧ ds D' E M ∧ Kn K w W H D' D
theorem Kn.tx {K : PySem.W.Frag} {w : World} {W : WX} {H H' : Hp} {D' : DEnds} {D : Ends} (k : Kn K w W H D' D) (t : Tx K H H') : Kn K w W H' D' D :=
  ⟨fun σ' H2 E' M' t2 => k.nx σ' H2 E' M' (t.trans t2), fun v H2 d M' t2 => k.rt v H2 d M' (t.trans t2), fun σ' H2 E' M' t2 => k.bk σ' H2 E' M' (t.trans t2), fun σ' H2 E' M' t2 => k.ct σ' H2 E' M' (t.trans t2), fun cls d σ' H2 E' M' t2 => k.xc cls d σ' H2 E' M' (t.trans t2)⟩
theorem Kc.tx {K : PySem.W.Frag} {w : World} {H H' : Hp} {Q' : DQ} {Q : VK} (k : Kc K w H Q' Q) (t : Tx K H H') : Kc K w H' Q' Q := fun v H2 d M' t2 => k v H2 d M' (t.trans t2)

/-! ### the judgements, weakened -/
section
variable {X : Cx} {e : Expr}
theorem pe_imp {t t' : TE} (h : PE X e t) (i : ∀ σ H Q, t' σ H Q → t σ H Q) : PE X e t' := ⟨fun pins s σ H Q I q => h.run pins s σ H Q I (i σ H Q q)⟩
theorem pt_imp {t t' : TT} (h : PT X e t) (i : ∀ σ H Q, t' σ H Q → t σ H Q) : PT X e t' := ⟨fun pins s σ H Q I q => h.run pins s σ H Q I (i σ H Q q)⟩
theorem pw_imp {t t' : TT} (h : PW X e t) (i : ∀ σ H Q, t' σ H Q → t σ H Q) : PW X e t' := ⟨fun wh pins s σ H Q I q => h.run wh pins s σ H Q I (i σ H Q q)⟩
theorem pa_imp {es : List Expr} {t t' : TA} (h : PA X es t) (i : ∀ σ H Q, t' σ H Q → t σ H Q) : PA X es t' := ⟨fun pos pins s σ H Q I q => h.run pos pins s σ H Q I (i σ H Q q)⟩
theorem ps_imp {st : Stmt} {t t' : TS} (h : PS X st t) (i : ∀ D σ H, t' D σ H → t D σ H) : PS X st t' := ⟨fun pins s σ H D I q => h.run pins s σ H D I (i D σ H q)⟩
theorem pss_imp {st : List Stmt} {t t' : TS} (h : PSs X st t) (i : ∀ D σ H, t' D σ H → t D σ H) : PSs X st t' := ⟨fun pins s σ H D I q => h.run pins s σ H D I (i D σ H q)⟩
theorem pi_imp {tg : Expr} {t t' : TI} (h : PI X tg e t) (i : ∀ σ H Q, t' σ H Q → t σ H Q) : PI X tg e t' := ⟨fun pins s σ H R I q => h.run pins s σ H R I (i σ H R q)⟩
end
/-- the judgements at the deep level -/
abbrev RE (X : Cx) (e : Expr) (de : DE) : Prop := PE X e (tD X.K X.w de)
abbrev RT (X : Cx) (e : Expr) (dt : DT) : Prop := PT X e (ttD X.K X.w dt)
abbrev RW (X : Cx) (e : Expr) (dt : DT) : Prop := PW X e (ttD X.K X.w dt)
abbrev RA (X : Cx) (es : List Expr) (da : DA) : Prop := PA X es (taD X.K X.w da)
abbrev RS (X : Cx) (st : Stmt) (ds : DS) : Prop := ∀ W : WX, L2.Takes X W → PS X st (tsD X.K X.w W ds)
abbrev RSs (X : Cx) (st : List Stmt) (ds : DS) : Prop := ∀ W : WX, L2.Takes X W → PSs X st (tsD X.K X.w W ds)

/-! ### names, constants -/
def dVar (i : Nat) : DE := fun E M Q => match E[i]? with
  | some (some d) => Q d M
  | _ => False
def dC (d : D) : DE := fun _ M Q => Q d M
section
variable {X : Cx}
theorem re_var (i : Nat) {x : Str} {pos : Pos} (h : PE X (.Name x pos) (tVar i)) : RE X (.Name x pos) (dVar i) := pe_imp h fun σ H Q ⟨E, M, Q', sl, rm, h, k⟩ => by
  unfold dVar at h
  split at h
  · rename_i d q
    obtain ⟨v, e, r⟩ := sl.at_ i d q
    exact ⟨v, e, k v H d M (Tx.refl H) rm r h⟩
  · exact h.elim
theorem re_c {e : Expr} {v : V} {d : D} (h : PE X e (tC v)) (r : ∀ H, Rep X.K X.w H d v) : RE X e (dC d) := pe_imp h fun σ H Q ⟨E, M, Q', sl, rm, h, k⟩ => k v H d M (Tx.refl H) rm (r H) h
theorem re_int {i j pos} : RE X (.Constant (.int i) j pos) (dC (.int i)) := re_c pe_int fun _ => .int i
theorem re_bl {b j pos} : RE X (.Constant (.bool b) j pos) (dC (.bl b)) := re_c pe_bl fun _ => .bl b
theorem re_non {j pos} : RE X (.Constant .none j pos) (dC .non) := re_c pe_non fun _ => .non
theorem re_str {x j pos} : RE X (.Constant (.str x) j pos) (dC (.str x)) := re_c pe_str fun _ => .str x
end

/-! ### operations by value -/
abbrev D2 := D → D → Mm → DQ → Prop
abbrev D1 := D → Mm → DQ → Prop
abbrev DL := List D → Mm → DQ → Prop
def R2R (K : PySem.W.Frag) (w : World) (r : R2) (o : D2) : Prop := ∀ dx dy M Q' x y H Q, Rm K w H M → Rep K w H dx x → Rep K w H dy y → o dx dy M Q' → Kc K w H Q' Q → r x y H Q
def R1R (K : PySem.W.Frag) (w : World) (r : V → Hp → VK → Prop) (o : D1) : Prop := ∀ dx M Q' x H Q, Rm K w H M → Rep K w H dx x → o dx M Q' → Kc K w H Q' Q → r x H Q
def RLR (K : PySem.W.Frag) (w : World) (r : List V → Hp → VK → Prop) (o : DL) : Prop := ∀ ds M Q' xs H Q, Rm K w H M → RepL K w H ds xs → o ds M Q' → Kc K w H Q' Q → r xs H Q
def dOp (o : D2) (da db : DE) : DE := fun E M Q => da E M fun x M1 => db E M1 fun y M2 => o x y M2 Q
def dUn (o : D1) (da : DE) : DE := fun E M Q => da E M fun x M1 => o x M1 Q
def dNil : DA := fun _ M Q => Q [] M
def dCons (da : DE) (dr : DA) : DA := fun E M Q => da E M fun x M1 => dr E M1 fun xs M2 => Q (x :: xs) M2
def dL (o : DL) (da : DA) : DE := fun E M Q => da E M fun ds M1 => o ds M1 Q
def dTup (da : DA) : DE := fun E M Q => da E M fun ds M1 => ds.length ≤ sizeLine ∧ Q (.tup ds) M1
def dLst (da : DA) : DE := fun E M Q => da E M fun ds M1 => ds.length ≤ sizeLine ∧ ∀ p, M1 p = none → Q (.ref p) (updM M1 p (.lst ds))
section
variable {X : Cx} {a b : Expr} {da db : DE} {pos : Pos}
theorem tD_op {K : PySem.W.Frag} {w : World} {r : R2} {o : D2} (hr : R2R K w r o) {σ : L2.St} {H : Hp} {Q : VK} (h : tD K w (dOp o da db) σ H Q) : tOp r (tD K w da) (tD K w db) σ H Q := by
  obtain ⟨E, M, Q', sl, rm, h, k⟩ := h
  refine ⟨E, M, _, sl, rm, h, fun v H1 d M1 t1 rm1 r1 q1 => ⟨E, M1, _, sl.mono t1, rm1, q1, fun v2 H2 d2 M2 t2 rm2 r2 q2 => ?_⟩⟩
  exact hr _ _ _ _ _ _ _ _ rm2 (r1.mono t2) r2 q2 (k.tx (t1.trans t2))
theorem re_op {op : Operator} {r : R2} {o : D2} (ho : OpR X (binaryOp op) r) (hr : R2R X.K X.w r o) (ha : RE X a da) (hb : RE X b db) : RE X (.BinOp a op b pos) (dOp o da db) :=
  pe_imp (pe_op ho ha hb) fun σ H Q h => tD_op hr h
theorem re_cmp {op : CmpOp} {r : R2} {o : D2} (ho : OpR X (compareOp op) r) (hr : R2R X.K X.w r o) (ha : RE X a da) (hb : RE X b db) (hm : behindInMarks op b = false) : RE X (.Compare a [op] [b] pos) (dOp o da db) :=
  pe_imp (pe_cmpR ho ha hb hm) fun σ H Q h => tD_op hr h
theorem re_ix {r : R2} {o : D2} (ho : IxR X r) (hr : R2R X.K X.w r o) (ha : RE X a da) (hb : RE X b db) (hs : PlainIx b) : RE X (.Subscript a b pos) (dOp o da db) :=
  pe_imp (pe_ix ho ha hb hs) fun σ H Q h => tD_op hr h
theorem re_un {op : UnaryOp} {r : V → Hp → VK → Prop} {o : D1} (ho : UnR X (unaryOp op) r) (hr : R1R X.K X.w r o) (ha : RE X a da) : RE X (.UnaryOp op a pos) (dUn o da) :=
  pe_imp (pe_un ho ha) fun σ H Q ⟨E, M, Q', sl, rm, h, k⟩ => ⟨E, M, _, sl, rm, h, fun v H1 d M1 t1 rm1 r1 q1 => hr _ _ _ _ _ _ rm1 r1 q1 (k.tx t1)⟩
theorem ra_nil : RA X [] dNil := pa_imp pa_nil fun σ H Q ⟨E, M, Q', sl, rm, h, k⟩ => k _ H _ M (Tx.refl H) rm .nil h
theorem ra_cons {e : Expr} {es : List Expr} {de : DE} {dr : DA} (ha : RE X e de) (hr : RA X es dr) (hs : starEach (e :: es) X.env = (false, eval e X.env) :: starEach es X.env := by rfl) : RA X (e :: es) (dCons de dr) :=
  pa_imp (pa_cons ha hr hs) fun σ H Q ⟨E, M, Q', sl, rm, h, k⟩ => by
    refine ⟨E, M, _, sl, rm, h, fun v H1 d M1 t1 rm1 r1 q1 => ⟨E, M1, _, sl.mono t1, rm1, q1, fun vs H2 ds M2 t2 rm2 r2 q2 => ?_⟩⟩
    exact k _ H2 _ M2 (t1.trans t2) rm2 (.cons (r1.mono t2) r2) q2
theorem re_tup {es : List Expr} {x1} {dr : DA} (h : RA X es dr) : RE X (.Tuple es x1 pos) (dTup dr) := pe_imp (pe_tup h) fun σ H Q ⟨E, M, Q', sl, rm, h, k⟩ => by
  refine ⟨E, M, _, sl, rm, h, fun vs H1 ds M1 t1 rm1 r1 q1 => ⟨by rw [r1.length]; exact q1.1, fun p hp => ?_⟩⟩
  exact k _ _ _ M1 (t1.trans (Tx.new hp)) (rm1.keepNew hp) (.tup (SqT.of upd_same) (r1.mono (Tx.new hp))) q1.2
theorem re_lst {es : List Expr} {dr : DA} (h : RA X es dr) : RE X (.List es pos) (dLst dr) := pe_imp (pe_lst h) fun σ H Q ⟨E, M, Q', sl, rm, h, k⟩ => by
  refine ⟨E, M, _, sl, rm, h, fun vs H1 ds M1 t1 rm1 r1 q1 => ⟨by rw [r1.length]; exact q1.1, fun p hp => ?_⟩⟩
  exact k _ _ _ _ (t1.trans (Tx.new hp)) (rm1.upd (mo := .lst ds) (Tx.new hp) ⟨vs, upd_same, r1.mono (Tx.new hp)⟩) (.ref p) (q1.2 p (rm1.free hp))
/-- a built-in called by its name -/
theorem re_callB {e : Expr} {es : List Expr} {x : Str} {p : Pos} {id : String} {r : List V → Hp → VK → Prop} {o : DL} {dr : DA} (hr : RLR X.K X.w r o) (hc : CallR X (.builtin id) r) (hg : Gl X x) (hm : X.mg x = none) (hv : bootBuiltins x = some (.builtin id)) (ha : RA X (e :: es) dr) (hn : x ≠ "__name__" := by decide) (hdb : (x == ("__debug__" : Str)) = false := by decide)
    (he : starEach (e :: es) X.env = (false, eval e X.env) :: starEach es X.env := by rfl) (hpl : (backTo pos (starEach es X.env)).any (·.1) = false := by rfl) : RE X (.Call (.Name x p) (e :: es) [] pos) (dL o dr) :=
  pe_imp (pe_callB hc hg hm hv ha hn hdb he hpl) fun σ H Q ⟨E, M, Q', sl, rm, h, k⟩ => ⟨E, M, _, sl, rm, h, fun vs H1 ds M1 t1 rm1 r1 q1 => hr _ _ _ _ _ _ rm1 r1 q1 (k.tx t1)⟩
theorem re_callTy {e : Expr} {es : List Expr} {x : Str} {p : Pos} {T : String} {r : List V → Hp → VK → Prop} {o : DL} {dr : DA} (hr : RLR X.K X.w r o) (hc : CallR X (.type T) r) (hg : Gl X x) (hm : X.mg x = none) (hv : bootBuiltins x = some (.type T)) (ha : RA X (e :: es) dr) (hn : x ≠ "__name__" := by decide) (hdb : (x == ("__debug__" : Str)) = false := by decide)
    (he : starEach (e :: es) X.env = (false, eval e X.env) :: starEach es X.env := by rfl) (hpl : (backTo pos (starEach es X.env)).any (·.1) = false := by rfl) : RE X (.Call (.Name x p) (e :: es) [] pos) (dL o dr) :=
  pe_imp (pe_callTy hc hg hm hv ha hn hdb he hpl) fun σ H Q ⟨E, M, Q', sl, rm, h, k⟩ => ⟨E, M, _, sl, rm, h, fun vs H1 ds M1 t1 rm1 r1 q1 => hr _ _ _ _ _ _ rm1 r1 q1 (k.tx t1)⟩
end

/-! ### a def's promise -/
def spD (K : PySem.W.Frag) (w : World) (sp : DSp) : Sp := fun vs H Q E => ∃ ds M Q' E', RepL K w H ds vs ∧ Rm K w H M ∧ sp ds M Q' E' ∧ Kc K w H Q' Q ∧ ∀ cls d H' M', Tx K H H' → Rm K w H' M' → E' cls d M' → E cls d H'
abbrev EX0 : DX := fun _ _ _ => False
def dCall (sp : DSp) (da : DA) : DE := fun E M Q => da E M fun ds M1 => sp ds M1 Q EX0
section
variable {X : Cx} {pos : Pos}
theorem re_call {CX : CXT} {k : Nat} {f : Addr} {fd : FuncData} {ps : List Str} {sp : DSp} {E : XK} {x : Str} {p : Pos} {e : Expr} {es : List Expr} {dr : DA} (F : FnOk X.prog X.w X.K X.mg X.base CX k f fd ps (spD X.K X.w sp)) (hr : Room k X.A) (hg : Gl X x) (hm : X.mg x = some (.ref f)) (hk : PySem.W.keepIn X.K (.ref f) = true) (hb : Binds X.K fd ps []) (hx : Passes CX X E)
    (ha : RA X (e :: es) dr) (hdb : (x == ("__debug__" : Str)) = false := by decide) (he : starEach (e :: es) X.env = (false, eval e X.env) :: starEach es X.env := by rfl) (hpl : (backTo pos (starEach es X.env)).any (·.1) = false := by rfl) :
    RE X (.Call (.Name x p) (e :: es) [] pos) (dCall sp dr) :=
  pe_imp (pe_call F hr hg hm hk hb .nil hx ha hdb he hpl) fun σ H Q ⟨E, M, Q', sl, rm, h, k⟩ => by
    refine ⟨E, M, _, sl, rm, h, fun vs H1 ds M1 t1 rm1 r1 q1 => ?_⟩
    show spD X.K X.w sp (vs ++ []) H1 Q _
    rw [List.append_nil]
    exact ⟨ds, M1, Q', EX0, r1, rm1, q1, k.tx t1, fun _ _ _ _ _ _ z => z.elim⟩
end
def startD (N : Nat) (ds : List D) : DEnv := ds.map some ++ List.replicate (N - ds.length) none
theorem repL_at {K : PySem.W.Frag} {w : World} {H : Hp} {N : List Str} {ds : List D} {vs : List V} (r : RepL K w H ds vs) : Sl K w H (start N vs) (startD N.length ds) := by
  have hl := r.length
  refine ⟨?_, fun i d e => ?_⟩
  · show (vs.map some ++ List.replicate (N.length - vs.length) none).length = (ds.map some ++ List.replicate (N.length - ds.length) none).length
    rw [List.length_append, List.length_append, List.length_map, List.length_map, List.length_replicate, List.length_replicate, hl]
  · unfold startD at e
    by_cases hi : i < ds.length
    · rw [List.getElem?_append_left (by rw [List.length_map]; exact hi), List.getElem?_map] at e
      obtain ⟨d', e1, e2⟩ := Option.map_eq_some_iff.mp e
      cases e2
      obtain ⟨x, h1, h2⟩ := r.get e1
      refine ⟨x, ?_, h2⟩
      show (vs.map some ++ List.replicate (N.length - vs.length) none)[i]? = _
      rw [List.getElem?_append_left (by rw [List.length_map, hl]; exact hi), List.getElem?_map, h1]
      rfl
    · rw [List.getElem?_append_right (by rw [List.length_map]; omega)] at e
      rw [List.getElem?_replicate] at e
      split at e <;> cases e
/-- THE RULE for a def: its body as a deep term, its promise from the reading -/
theorem fn_ok {P : Program} {w : World} {K : PySem.W.Frag} {mg : Str → Option Value} {base : Heap} {x qual : Str} {params : Arguments} {body : List Stmt} {scope : Scope} {f : Addr} {fd : FuncData} {N ps : List Str} {k : Nat} {sp : DSp} {b : DS}
    (F : FunD K x qual params body scope [] [] f fd) (S : FnScope N ps scope) (len : ∀ ds M Q E, sp ds M Q E → ds.length = ps.length)
    (hb : ∀ (cdv : Value) (A : Around) (outer : List Env) (s : Shared) (H : Hp) (E : XK), Room k (A.deeper (envOfC qual scope s.heap.objs.size f cdv)) → RSs (cxOf CX0 P w K mg base N qual scope f cdv A outer s H E).nox body b)
    (hq : ∀ ds M Q E, sp ds M Q E → b { nx := fun _ M' => Q .non M', rt := Q } (startD N.length ds) M) : FnOk P w K mg base CX0 (k + 1) f fd ps (spD K w sp) := by
  refine F.ok S (fun vs H Q E h => ?_) (fun cdv A outer s H vs Q E hr h => ?_)
  · obtain ⟨ds, M, Q', E', r, _, h, _⟩ := h
    rw [r.length]
    exact len _ _ _ _ h
  · obtain ⟨ds, M, Q', E', r, rm, h, kc, _⟩ := h
    refine ⟨_, (hb cdv A outer s H E hr (fun _ _ _ _ => False) takes0).nox, ⟨_, M, _, repL_at r, rm, hq _ _ _ _ h, ⟨fun σ' H' E' M' t _ rm' q => kc _ _ _ _ t rm' .non q, kc, fun _ _ _ _ _ _ _ z => z.elim, fun _ _ _ _ _ _ _ z => z.elim, fun _ _ _ _ _ _ _ _ _ z => z.elim⟩⟩⟩
end DH

set_option Elab.async false
set_option linter.all false
set_option autoImplicit false
set_option maxRecDepth 100000
set_option maxHeartbeats 4000000
/-! a tuple times a number, one or less too. -/
namespace DH
open PySem PySem.Spec PyProof.Rows L2
theorem tupMul1 (l : Addr) (its : Array Value) (n : Nat) (dd : Option Addr) (sl : Array (Option Value)) (u : Tok) :
    Meets (Builtin.«tuple.__mul__» ⟨[.ref l, .int 1 u], []⟩) (fun _ R s => s.heap.get? l = some { cls := .type "tuple", dict := dd, data := .seq its n, slots := sl } ∧ R (.ok (.ret (Value.ref l))) s) :=
  .of_wp fun prog w A R s h => by
    obtain ⟨hp, g, d, tk, os⟩ := s
    obtain ⟨hl, h⟩ := h
    have f1 := AutoSeq1.idx_int
    wp_walk using wpAny_loadPart' hl
    exact ⟨_, rfl, h⟩
theorem tupMul0 (l : Addr) (its : Array Value) (n : Nat) (dd : Option Addr) (sl : Array (Option Value)) (k : Int) (u : Tok) (c0 : (decide (k < -(2 ^ 63)) || decide (k ≥ 2 ^ 63)) = false) (c1 : (its.isEmpty || k == 1) = false) (c2 : (decide (k ≤ 0) || its.isEmpty) = true) :
    Meets (Builtin.«tuple.__mul__» ⟨[.ref l, .int k u], []⟩) (fun _ R s => s.heap.get? l = some { cls := .type "tuple", dict := dd, data := .seq its n, slots := sl } ∧
      R (.ok (.ret (Value.ref s.heap.objs.size))) { s with heap := s.heap.push { cls := Value.type "tuple", data := Data.seq #[] }, toks := s.toks }) :=
  .of_wp fun prog w A R s h => by
    obtain ⟨hp, g, d, tk, os⟩ := s
    obtain ⟨hl, h⟩ := h
    have f1 := AutoSeq1.idx_int
    wp_walk using wpAny_loadPart' hl
    repeat (first
      | (refine wpAny_ite_false (decide_eq_false (by rw [c0]; exact Bool.false_ne_true)) ?_; wp_walk using wpAny_loadPart' hl)
      | (refine wpAny_ite_false (decide_eq_false (by rw [c1]; exact Bool.false_ne_true)) ?_; wp_walk using wpAny_loadPart' hl)
      | (refine wpAny_ite_true c2 ?_; wp_walk using wpAny_loadPart' hl))
    exact ⟨_, rfl, h⟩
def rRepS (K : PySem.W.Frag) : R2 := fun x y H Q => ∃ l k xs, x = .ref l ∧ y = .int k ∧ SqT K H l xs ∧ xs ≠ [] ∧ -1000 ≤ k ∧ k ≤ 1 ∧ (k = 1 → Q (.ref l) H) ∧ (k ≤ 0 → ∀ p, H p = none → Q (.ref p) (upd H p (.tup [])))
theorem op_repS {X : Cx} : OpR X (binaryOp .Mult) (rRepS X.K) := fun pins s σ H x y v u Q I rx ry g => by
  obtain ⟨l, k, xs, rfl, rfl, hT, hne, lo, hi, q1, q0⟩ := g
  cases rx
  obtain ⟨t, rfl⟩ := ry
  obtain ⟨its, r, ⟨⟨cc, dd, dat, sl⟩, ho, hc, n, hd⟩, hs⟩ := I.tuple hT
  simp only at hc hd
  subst hc hd
  have hn : its ≠ [] := fun e => hne (by
    have := r.length
    rw [e] at this
    exact List.eq_nil_of_length_eq_zero this)
  have hi0 : its.toArray.isEmpty = false := by
    cases its with
    | nil => exact absurd rfl hn
    | cons a b => rfl
  by_cases hk : k = 1
  · subst hk
    refine wpAny_binaryOp_repeat_ref (T := "tuple") (U := "int") (by decide) ⟨_, ho, rfl⟩ (fun s' => typeIs_int s' 1 t) noFill_tuple_mul F.fills_int_mul F.slot_int_rmul repeat_tuple F.slot_int_index.lookup
      (call_meets F.slot_int_rmul (typeIs_int s 1 t) F.entry_int_rmul (F.args_int_rmul_2 _ _) (int_rmul_tuple 1 t l its.toArray n dd sl)
        ⟨ho, rfl, ⟨_, ho, rfl⟩, call_meets F.slot_tuple_mul ⟨_, ho, rfl⟩ F.entry_tuple_mul (F.args_tuple_mul_2 _ _) (tupMul1 l its.toArray n dd sl t) ⟨ho, ?_⟩⟩)
    exact ⟨.ref l, H, I, rfl, q1 rfl⟩
  · have k0 : k ≤ 0 := by omega
    have c0 : (decide (k < -(2 ^ 63)) || decide (k ≥ 2 ^ 63)) = false := by
      rw [decide_eq_false (by omega), decide_eq_false (by omega)] <;> rfl
    have c1 : (its.toArray.isEmpty || k == 1) = false := by
      rw [hi0, Bool.false_or]
      exact beq_eq_false_iff_ne.mpr hk
    have c2 : (decide (k ≤ 0) || its.toArray.isEmpty) = true := by rw [decide_eq_true k0]; rfl
    refine wpAny_binaryOp_repeat_ref (T := "tuple") (U := "int") (by decide) ⟨_, ho, rfl⟩ (fun s' => typeIs_int s' k t) noFill_tuple_mul F.fills_int_mul F.slot_int_rmul repeat_tuple F.slot_int_index.lookup
      (call_meets F.slot_int_rmul (typeIs_int s k t) F.entry_int_rmul (F.args_int_rmul_2 _ _) (int_rmul_tuple k t l its.toArray n dd sl)
        ⟨ho, rfl, ⟨_, ho, rfl⟩, call_meets F.slot_tuple_mul ⟨_, ho, rfl⟩ F.entry_tuple_mul (F.args_tuple_mul_2 _ _) (tupMul0 l its.toArray n dd sl k t c0 c1 c2) ⟨ho, ?_⟩⟩)
    refine ⟨.ref s.heap.objs.size, _, I.laid (t' := s.toks) (o := .tup []) (fun b ob q => Heap.get?_push_of_some _ q) (Nat.le_refl _) ?_, rfl, q0 k0 _ (I.hok.fresh (Nat.le_refl _))⟩
    exact ⟨by show 0 ≤ sizeLine; decide, [], .nil, IsTup.new _ _⟩
end DH

set_option Elab.async false
set_option linter.all false
set_option autoImplicit false
set_option maxRecDepth 100000
set_option maxHeartbeats 2000000
/-! Deep readings: the operations by value. -/
namespace DH
open PySem PySem.Spec PyProof.Rows L2

def IsL (M : Mm) (a : Addr) (ds : List D) : Prop := M a = some (.lst ds)
section
variable {K : PySem.W.Frag} {w : World} {H : Hp} {M : Mm}
theorem IsL.sq {a : Addr} {ds : List D} (h : IsL M a ds) (rm : Rm K w H M) : ∃ xs, SqL K H a xs ∧ RepL K w H ds xs := by
  obtain ⟨xs, e, r⟩ := rm a _ h
  exact ⟨xs, .inl (.inl e), r⟩
theorem Rep.inv_int {i : Int} {v : V} (r : Rep K w H (.int i) v) : v = .int i := by cases r; rfl
theorem Rep.inv_str {i : Str} {v : V} (r : Rep K w H (.str i) v) : v = .str i := by cases r; rfl
theorem Rep.inv_bl {i : Bool} {v : V} (r : Rep K w H (.bl i) v) : v = .bl i := by cases r; rfl
theorem Rep.inv_ref {i : Addr} {v : V} (r : Rep K w H (.ref i) v) : v = .ref i := by cases r; rfl
theorem Rep.inv_non {v : V} (r : Rep K w H .non v) : v = .non := by cases r; rfl
theorem Rep.inv_tup {ds : List D} {v : V} (r : Rep K w H (.tup ds) v) : ∃ a xs, v = .ref a ∧ SqT K H a xs ∧ RepL K w H ds xs := by
  cases r with
  | tup h l => exact ⟨_, _, rfl, h, l⟩
theorem Rep.inv_fl {ds : List D} {v : V} (r : Rep K w H (.fl ds) v) : ∃ a xs, v = .ref a ∧ FzL K H a xs ∧ RepL K w H ds xs := by
  cases r with
  | fl h l => exact ⟨_, _, rfl, h, l⟩
theorem Rep.inv_kd {ds : List (Str × D)} {v : V} (r : Rep K w H (.kd ds) v) : ∃ a, v = .ref a ∧ KdAt K w a ds := by
  cases r with
  | kd h => exact ⟨_, rfl, h⟩
theorem Kc.now {Q' : DQ} {Q : VK} {d : D} {v : V} (k : Kc K w H Q' Q) (rm : Rm K w H M) (r : Rep K w H d v) (q : Q' d M) : Q v H := k v H d M (Tx.refl H) rm r q
theorem Kc.newL {Q' : DQ} {Q : VK} {ds : List D} {xs : List V} (k : Kc K w H Q' Q) (rm : Rm K w H M) (r : RepL K w H ds xs) (q : ∀ p, M p = none → Q' (.ref p) (updM M p (.lst ds))) : ∀ p, H p = none → Q (.ref p) (L2.upd H p (.lst xs)) := fun p hp =>
  k _ _ _ _ (Tx.new hp) (rm.upd (mo := .lst ds) (Tx.new hp) ⟨xs, upd_same, r.mono (Tx.new hp)⟩) (.ref p) (q p (rm.free hp))
theorem Kc.newT {Q' : DQ} {Q : VK} {ds : List D} {xs : List V} (k : Kc K w H Q' Q) (rm : Rm K w H M) (r : RepL K w H ds xs) (q : Q' (.tup ds) M) : ∀ p, H p = none → Q (.ref p) (L2.upd H p (.tup xs)) := fun p hp =>
  k _ _ _ _ (Tx.new hp) (rm.keepNew hp) (.tup (SqT.of upd_same) (r.mono (Tx.new hp))) q
end

/-! ### arithmetic -/
def oInt (g : Int → Int → D) : D2 := fun x y M Q => match x, y with
  | .int i, .int j => Q (g i j) M
  | _, _ => False
def oIntC (C : Int → Int → Prop) (g : Int → Int → D) : D2 := fun x y M Q => match x, y with
  | .int i, .int j => C i j ∧ Q (g i j) M
  | _, _ => False
def oAdd : D2 := fun x y M Q => match x, y with
  | .int i, .int j => Q (.int (i + j)) M
  | .int i, .bl k => Q (.int (i + b2i k)) M
  | .str a, .str b => a.length + b.length ≤ sizeLine ∧ Q (.str (a ++ b)) M
  | .tup a, .tup b => a.length + b.length ≤ sizeLine ∧ Q (.tup (a ++ b)) M
  | .ref a, .ref b => ∃ xs ys, M a = some (.lst xs) ∧ M b = some (.lst ys) ∧ xs.length + ys.length ≤ sizeLine ∧ ∀ p, M p = none → Q (.ref p) (updM M p (.lst (xs ++ ys)))
  | _, _ => False
abbrev oSub : D2 := oInt fun i j => .int (i - j)
def oMul : D2 := fun x y M Q => match x, y with
  | .int i, .int j => CMul i j ∧ Q (.int (i * j)) M
  | .tup ds, .int k => ds ≠ [] ∧ ds.length ≤ 1000 ∧ -1000 ≤ k ∧ k ≤ 1000 ∧ Q (.tup (List.replicate k.toNat ds).flatten) M
  | _, _ => False
abbrev oFdiv : D2 := oIntC CDiv fun i j => .int (i / j)
abbrev oMod : D2 := oIntC (fun _ j => 0 < j) fun i j => .int (i % j)
abbrev oPow : D2 := oIntC CPow fun i j => .int (i ^ j.toNat)
abbrev oShl : D2 := oIntC CPow fun i j => .int (i * 2 ^ j.toNat)
abbrev oShr : D2 := oIntC (fun _ j => 0 ≤ j) fun i j => .int (i / 2 ^ j.toNat)
abbrev oAnd : D2 := oInt fun i j => .int (Builtin.bitAnd i j)
abbrev oOr : D2 := oInt fun i j => .int (Builtin.bitOr i j)
abbrev oXor : D2 := oInt fun i j => .int (Builtin.bitXor i j)
section
variable {K : PySem.W.Frag} {w : World} {X : Cx} {a b : Expr} {da db : DE} {pos : Pos}
theorem rr_int {g : Int → Int → V} {g' : Int → Int → D} (hg : ∀ i j H, Rep K w H (g' i j) (g i j)) : R2R K w (rI0 g) (oInt g') := fun dx dy M Q' x y H Q rm rx ry h k => by
  unfold oInt at h
  split at h
  · rename_i i j
    exact ⟨i, j, rx.inv_int, ry.inv_int, k.now rm (hg i j H) h⟩
  · exact h.elim
theorem rr_intC {C : Int → Int → Prop} {g : Int → Int → V} {g' : Int → Int → D} (hg : ∀ i j H, Rep K w H (g' i j) (g i j)) : R2R K w (rI C g) (oIntC C g') := fun dx dy M Q' x y H Q rm rx ry h k => by
  unfold oIntC at h
  split at h
  · rename_i i j
    exact ⟨i, j, rx.inv_int, ry.inv_int, h.1, k.now rm (hg i j H) h.2⟩
  · exact h.elim
theorem re_sub (ha : RE X a da) (hb : RE X b db) : RE X (.BinOp a .Sub b pos) (dOp oSub da db) := re_op op_sub (rr_int fun _ _ _ => .int _) ha hb
theorem RepL.rep {H : Hp} {ds : List D} {xs : List V} (l : RepL K w H ds xs) : ∀ n : Nat, RepL K w H (List.replicate n ds).flatten (List.replicate n xs).flatten
  | 0 => .nil
  | n + 1 => by
    rw [List.replicate_succ, List.replicate_succ, List.flatten_cons, List.flatten_cons]
    exact l.append (RepL.rep l n)
abbrev rMulA (K : PySem.W.Frag) : R2 := fun x y H Q => rI CMul (fun i j => .int (i * j)) x y H Q ∨ rRepT K x y H Q ∨ rRepS K x y H Q
theorem rr_mul : R2R K w (rMulA K) oMul := fun dx dy M Q' x y H Q rm rx ry h k => by
  unfold oMul at h
  split at h
  · rw [rx.inv_int, ry.inv_int]
    exact .inl ⟨_, _, rfl, rfl, h.1, k.now rm (.int _) h.2⟩
  · rename_i ds j
    obtain ⟨hne, hlen, lo, hi, q⟩ := h
    obtain ⟨a, xs, rfl, sq, l⟩ := rx.inv_tup
    rw [ry.inv_int]
    have hl := l.length
    have hx : xs ≠ [] := fun e => hne (List.eq_nil_of_length_eq_zero (by rw [← hl, e]; rfl))
    by_cases h2 : 2 ≤ j
    · exact .inr (.inl ⟨_, _, xs, rfl, rfl, sq, hx, h2, hi, by omega, k.newT rm (l.rep _) q⟩)
    · refine .inr (.inr ⟨_, _, xs, rfl, rfl, sq, hx, lo, by omega, fun e => ?_, fun e => ?_⟩)
      · subst e
        refine k.now rm (.tup sq l) ?_
        have e2 : (List.replicate (1 : Int).toNat ds).flatten = ds := by show (List.replicate 1 ds).flatten = ds; simp
        rw [e2] at q; exact q
      · have e2 : (List.replicate j.toNat ds).flatten = [] := by rw [show j.toNat = 0 by omega]; rfl
        rw [e2] at q
        exact k.newT rm .nil q
  · exact h.elim
theorem re_mul (ha : RE X a da) (hb : RE X b db) : RE X (.BinOp a .Mult b pos) (dOp oMul da db) := re_op (OpR.or op_mul (OpR.or op_repT op_repS)) rr_mul ha hb
theorem re_fdiv (ha : RE X a da) (hb : RE X b db) : RE X (.BinOp a .FloorDiv b pos) (dOp oFdiv da db) := re_op op_fdiv (rr_intC fun _ _ _ => .int _) ha hb
theorem re_mod (ha : RE X a da) (hb : RE X b db) : RE X (.BinOp a .Mod b pos) (dOp oMod da db) := re_op op_mod (rr_intC fun _ _ _ => .int _) ha hb
theorem re_pow (ha : RE X a da) (hb : RE X b db) : RE X (.BinOp a .Pow b pos) (dOp oPow da db) := re_op op_pow (rr_intC fun _ _ _ => .int _) ha hb
theorem re_shl (ha : RE X a da) (hb : RE X b db) : RE X (.BinOp a .LShift b pos) (dOp oShl da db) := re_op op_shl (rr_intC fun _ _ _ => .int _) ha hb
theorem re_shr (ha : RE X a da) (hb : RE X b db) : RE X (.BinOp a .RShift b pos) (dOp oShr da db) := re_op op_shr (rr_intC fun _ _ _ => .int _) ha hb
theorem re_band (ha : RE X a da) (hb : RE X b db) : RE X (.BinOp a .BitAnd b pos) (dOp oAnd da db) := re_op op_and (rr_int fun _ _ _ => .int _) ha hb
theorem re_bor (ha : RE X a da) (hb : RE X b db) : RE X (.BinOp a .BitOr b pos) (dOp oOr da db) := re_op op_or (rr_int fun _ _ _ => .int _) ha hb
theorem re_bxor (ha : RE X a da) (hb : RE X b db) : RE X (.BinOp a .BitXor b pos) (dOp oXor da db) := re_op op_xor (rr_int fun _ _ _ => .int _) ha hb
theorem re_add (ha : RE X a da) (hb : RE X b db) : RE X (.BinOp a .Add b pos) (dOp oAdd da db) := by
  refine re_op (OpR.or op_add (OpR.or op_add_ib (OpR.or op_add_str (OpR.or op_catA op_cat)))) (fun dx dy M Q' x y H Q rm rx ry h k => ?_) ha hb
  unfold oAdd at h
  split at h
  · rename_i i j
    exact .inl ⟨i, j, rx.inv_int, ry.inv_int, k.now rm (.int _) h⟩
  · rename_i i j
    exact .inr (.inl ⟨i, j, rx.inv_int, ry.inv_bl, k.now rm (.int _) h⟩)
  · rename_i i j
    exact .inr (.inr (.inl ⟨i, j, rx.inv_str, ry.inv_str, h.1, k.now rm (.str _) h.2⟩))
  · rename_i i j
    obtain ⟨p, xs, rfl, h1, l1⟩ := rx.inv_tup
    obtain ⟨q, ys, rfl, h2, l2⟩ := ry.inv_tup
    refine .inr (.inr (.inr (.inl ⟨p, q, xs, ys, rfl, rfl, h1, h2, by rw [l1.length, l2.length]; exact h.1, fun e => ?_, fun _ e => ?_, fun _ _ => k.newT rm (l1.append l2) h.2⟩)))
    · subst e
      cases l1
      exact k.now rm (.tup h2 l2) h.2
    · subst e
      cases l2
      exact k.now rm (.tup h1 (by rw [List.append_nil]; exact l1)) h.2
  · rename_i i j
    obtain ⟨xs, ys, h1, h2, h3, h4⟩ := h
    obtain ⟨us, e1, l1⟩ := rm _ _ h1
    obtain ⟨vs, e2, l2⟩ := rm _ _ h2
    exact .inr (.inr (.inr (.inr ⟨_, _, us, vs, rx.inv_ref, ry.inv_ref, e1, e2, by rw [l1.length, l2.length]; exact h3, k.newL rm (l1.append l2) h4⟩)))
  · exact h.elim
def oNeg : D1 := fun x M Q => match x with
  | .int i => Q (.int (-i)) M
  | _ => False
theorem re_neg (ha : RE X a da) : RE X (.UnaryOp .USub a pos) (dUn oNeg da) := re_un un_neg (fun dx M Q' x H Q rm rx h k => by
  unfold oNeg at h
  split at h
  · rename_i i
    exact ⟨i, rx.inv_int, k.now rm (.int _) h⟩
  · exact h.elim) ha

/-! ### comparisons -/
abbrev oLt : D2 := oInt fun i j => .bl (decide (i < j))
abbrev oLe : D2 := oInt fun i j => .bl (decide (i ≤ j))
abbrev oGt : D2 := oInt fun i j => .bl (decide (j < i))
abbrev oGe : D2 := oInt fun i j => .bl (decide (j ≤ i))
theorem rr_lt : R2R K w (rI0 fun i j => .bl (decide (i < j))) oLt := rr_int fun _ _ _ => .bl _
theorem rr_le : R2R K w (rI0 fun i j => .bl (decide (i ≤ j))) oLe := rr_int fun _ _ _ => .bl _
theorem rr_gt : R2R K w (rI0 fun i j => .bl (decide (j < i))) oGt := rr_int fun _ _ _ => .bl _
theorem rr_ge : R2R K w (rI0 fun i j => .bl (decide (j ≤ i))) oGe := rr_int fun _ _ _ => .bl _
end
mutual
/-- no address, no class in it -/
def pureD : D → Bool
  | .non | .bl _ | .int _ | .str _ => true
  | .tup xs => pureDs xs
  | _ => false
def pureDs : List D → Bool
  | [] => true
  | x :: xs => pureD x && pureDs xs
end
mutual
def toPD : D → PyData
  | .non => .none
  | .bl b => .bool b
  | .int i => .int i
  | .str x => .str x
  | .tup xs => .tuple (toPDs xs)
  | _ => .none
def toPDs : List D → List PyData
  | [] => []
  | x :: xs => toPD x :: toPDs xs
end
section
variable {K : PySem.W.Frag} {w : World} {H : Hp}
mutual
theorem dp_of : ∀ {d : D} {v : V}, Rep K w H d v → pureD d = true → Dp K H v (toPD d)
  | _, _, .non, _ => by unfold toPD; exact .non
  | _, _, .bl b, _ => by unfold toPD; exact .bl b
  | _, _, .int i, _ => by unfold toPD; exact .int i
  | _, _, .str x, _ => by unfold toPD; exact .str x
  | _, _, .ref a, h => by unfold pureD at h; cases h
  | _, _, .ty n, h => by unfold pureD at h; cases h
  | _, _, .kd n, h => by unfold pureD at h; cases h
  | _, _, .fl _ _, h => by unfold pureD at h; cases h
  | _, _, .tup s l, h => by
    unfold pureD at h
    unfold toPD
    exact .tup s (dps_of l h)
theorem dps_of : ∀ {ds : List D} {xs : List V}, RepL K w H ds xs → pureDs ds = true → DpAll K H xs (toPDs ds)
  | _, _, .nil, _ => by unfold toPDs; exact .nil
  | _, _, .cons r l, h => by
    unfold pureDs at h
    obtain ⟨h1, h2⟩ := Bool.and_eq_true_iff.mp h
    unfold toPDs
    exact .cons (dp_of r h1) (dps_of l h2)
end
end

/-- what a value is as data: lists too -/
inductive Vw (M : Mm) : D → PyData → Prop
  | non : Vw M .non .none
  | bl (b : Bool) : Vw M (.bl b) (.bool b)
  | int (i : Int) : Vw M (.int i) (.int i)
  | str (x : Str) : Vw M (.str x) (.str x)
  | lst {a : Addr} {ds : List D} (ps : List PyData) : IsL M a ds → ds.length = ps.length → (∀ (i : Nat) d p, ds[i]? = some d → ps[i]? = some p → Vw M d p) → Vw M (.ref a) (.list ps)
  | tup {ds : List D} (ps : List PyData) : ds.length = ps.length → (∀ (i : Nat) d p, ds[i]? = some d → ps[i]? = some p → Vw M d p) → Vw M (.tup ds) (.tuple ps)
section
variable {K : PySem.W.Frag} {w : World} {H : Hp} {M : Mm}
theorem dpAll_of {xs : List V} : ∀ {ps : List PyData}, xs.length = ps.length → (∀ (i : Nat) x p, xs[i]? = some x → ps[i]? = some p → Dp K H x p) → DpAll K H xs ps := by
  induction xs with
  | nil =>
    intro ps hl h
    cases ps with
    | nil => exact .nil
    | cons p ps => cases hl
  | cons x xs ih =>
    intro ps hl h
    cases ps with
    | nil => cases hl
    | cons p ps => exact .cons (h 0 x p rfl rfl) (ih (by simpa using hl) fun i x p a b => h (i + 1) x p (by simpa using a) (by simpa using b))
theorem RepL.inv {ds : List D} {xs : List V} (r : RepL K w H ds xs) {i : Nat} {x : V} (e : xs[i]? = some x) : ∃ d, ds[i]? = some d ∧ Rep K w H d x := by
  have hi := (List.getElem?_eq_some_iff.mp e).1
  rw [r.length] at hi
  obtain ⟨y, h1, h2⟩ := r.get (i := i) (d := ds[i]) (List.getElem?_eq_getElem hi)
  rw [e] at h1; cases h1
  exact ⟨_, List.getElem?_eq_getElem hi, h2⟩
theorem Vw.dp (rm : Rm K w H M) : ∀ {d : D} {p : PyData}, Vw M d p → ∀ {v : V}, Rep K w H d v → Dp K H v p := by
  intro d p h
  induction h with
  | non => intro v r; rw [r.inv_non]; exact .non
  | bl b => intro v r; rw [r.inv_bl]; exact .bl b
  | int b => intro v r; rw [r.inv_int]; exact .int b
  | str b => intro v r; rw [r.inv_str]; exact .str b
  | lst ps hl hn _ ih =>
    intro v r
    rw [r.inv_ref]
    obtain ⟨xs, sq, l⟩ := hl.sq rm
    refine .lst sq (dpAll_of (by rw [l.length]; exact hn) fun i x p a b => ?_)
    obtain ⟨d, e, rr⟩ := l.inv a
    exact ih i d p e b rr
  | tup ps hn _ ih =>
    intro v r
    obtain ⟨a, xs, rfl, sq, l⟩ := r.inv_tup
    refine .tup sq (dpAll_of (by rw [l.length]; exact hn) fun i x p a b => ?_)
    obtain ⟨d, e, rr⟩ := l.inv a
    exact ih i d p e b rr
end
/-! ### dicts as pairs -/
def keyD : Key → D
  | .inl i => .int i
  | .inr x => .str x
def valD (kvs : List (Key × D)) (k : Key) : Option D := (kvs.find? fun kv => decide (kv.1 = k)).map (·.2)
def putD (kvs : List (Key × D)) (k : Key) (v : D) : List (Key × D) :=
  if (kvs.any fun kv => decide (kv.1 = k)) = true then kvs.map (fun kv => if kv.1 = k then (kv.1, v) else kv) else kvs ++ [(k, v)]
section
variable {K : PySem.W.Frag} {w : World} {H : Hp} {M : Mm}
theorem keyD_rep {k : Key} {v : V} (r : Rep K w H (keyD k) v) : v = kV k := by
  cases k with
  | inl i => exact r.inv_int
  | inr x => exact r.inv_str
theorem RepF.val : ∀ {kvs : List (Key × D)} {gs : List (Key × V)}, RepF K w H kvs gs → ∀ (k : Key), (∀ d, valD kvs k = some d → ∃ x, valV gs k = some x ∧ Rep K w H d x) ∧ (valD kvs k = none → valV gs k = none)
  | _, _, .nil, k => ⟨fun d h => by simp [valD] at h, fun _ => rfl⟩
  | _, _, .cons (k := k') r l, k => by
    have ih := RepF.val l k
    by_cases e : k' = k
    · refine ⟨fun d h => ?_, fun h => ?_⟩
      · simp only [valD, List.find?_cons, decide_eq_true e, Option.map_some] at h
        cases h
        exact ⟨_, valV_pos e, r⟩
      · simp only [valD, List.find?_cons, decide_eq_true e, Option.map_some] at h
        cases h
    · refine ⟨fun d h => ?_, fun h => ?_⟩
      · simp only [valD, List.find?_cons, decide_eq_false e] at h
        rw [valV_neg e]
        exact ih.1 d h
      · simp only [valD, List.find?_cons, decide_eq_false e] at h
        rw [valV_neg e]
        exact ih.2 h
theorem RepF.val_isSome {kvs : List (Key × D)} {gs : List (Key × V)} (r : RepF K w H kvs gs) (k : Key) : (valV gs k).isSome = (valD kvs k).isSome := by
  cases e : valD kvs k with
  | none => rw [(r.val k).2 e]; rfl
  | some d => obtain ⟨x, h, _⟩ := (r.val k).1 d e; rw [h]; rfl
theorem RepF.append {κ : Type} : ∀ {fs fs' : List (κ × D)} {gs gs' : List (κ × V)}, RepF K w H fs gs → RepF K w H fs' gs' → RepF K w H (fs ++ fs') (gs ++ gs')
  | _, _, _, _, .nil, r => r
  | _, _, _, _, .cons h l, r => .cons h (RepF.append l r)
theorem RepF.any {kvs : List (Key × D)} {gs : List (Key × V)} (r : RepF K w H kvs gs) (k : Key) : (gs.any fun kv => decide (kv.1 = k)) = (kvs.any fun kv => decide (kv.1 = k)) := by
  induction r with
  | nil => rfl
  | cons h l ih => rw [List.any_cons, List.any_cons, ih]
theorem RepF.repl {kvs : List (Key × D)} {gs : List (Key × V)} (r : RepF K w H kvs gs) (k : Key) {d : D} {x : V} (rx : Rep K w H d x) :
    RepF K w H (kvs.map fun kv => if kv.1 = k then (kv.1, d) else kv) (gs.map fun kv => if kv.1 = k then (kv.1, x) else kv) := by
  induction r with
  | nil => exact .nil
  | @cons k' d' x' fs gs h l ih =>
    rw [List.map_cons, List.map_cons]
    by_cases e : k' = k
    · rw [if_pos e, if_pos e]; exact .cons rx ih
    · rw [if_neg e, if_neg e]; exact .cons h ih
theorem RepF.put {kvs : List (Key × D)} {gs : List (Key × V)} (r : RepF K w H kvs gs) (k : Key) {d : D} {x : V} (rx : Rep K w H d x) : RepF K w H (putD kvs k d) (putK gs k x) := by
  unfold putD putK
  rw [r.any k]
  split
  · exact r.repl k rx
  · exact r.append (.cons rx .nil)
end

/-! ### equality -/
def scalEq : D → D → Option Bool
  | .int i, .int j => some (decide (i = j))
  | .str i, .str j => some (decide (i = j))
  | .bl i, .bl j => some (decide (i = j))
  | .non, .non => some true
  | .int _, .str _ => some false
  | .str _, .int _ => some false
  | .non, .int _ => some false
  | .int _, .non => some false
  | .non, .bl _ => some false
  | .bl _, .non => some false
  | .non, .str _ => some false
  | .str _, .non => some false
  | .bl _, .str _ => some false
  | .str _, .bl _ => some false
  | _, _ => none
/-- two dicts of the same data -/
def sameDk (x y : D) (M : Mm) : Prop := ∃ a b kvs kvs', x = .ref a ∧ y = .ref b ∧ M a = some (.dk kvs) ∧ M b = some (.dk kvs') ∧ kvs.length = kvs'.length ∧ ∀ kv ∈ kvs, valD kvs' kv.1 = some kv.2 ∧ pureD kv.2 = true ∧ SeqAt.shaped (toPD kv.2) = true
def oEq : D2 := fun x y M Q => match scalEq x y with
  | some b => Q (.bl b) M
  | none => (∃ p q, Vw M x p ∧ Vw M y q ∧ SeqAt.shaped p = true ∧ SeqAt.shaped q = true ∧ Q (.bl (PyData.eqv p q)) M) ∨ (sameDk x y M ∧ Q (.bl true) M)
def oNe : D2 := fun x y M Q => match scalEq x y with
  | some b => Q (.bl (!b)) M
  | none => ∃ p q, Vw M x p ∧ Vw M y q ∧ SeqAt.shaped p = true ∧ SeqAt.shaped q = true ∧ Q (.bl (!PyData.eqv p q)) M
theorem scal_ok {K : PySem.W.Frag} {w : World} {H : Hp} {x y : D} {b : Bool} (h : scalEq x y = some b) {v u : V} (rx : Rep K w H x v) (ry : Rep K w H y u) : scal v u = true ∧ decide (v = u) = b := by
  unfold scalEq at h
  split at h
  · rw [rx.inv_int, ry.inv_int]; cases h; exact ⟨rfl, by simp⟩
  · rw [rx.inv_str, ry.inv_str]; cases h; exact ⟨rfl, by simp⟩
  · rw [rx.inv_bl, ry.inv_bl]; cases h; exact ⟨rfl, by simp⟩
  · rw [rx.inv_non, ry.inv_non]; cases h; exact ⟨rfl, by simp⟩
  · rw [rx.inv_int, ry.inv_str]; cases h; exact ⟨rfl, by simp⟩
  · rw [rx.inv_str, ry.inv_int]; cases h; exact ⟨rfl, by simp⟩
  · rw [rx.inv_non, ry.inv_int]; cases h; exact ⟨rfl, by simp⟩
  · rw [rx.inv_int, ry.inv_non]; cases h; exact ⟨rfl, by simp⟩
  · rw [rx.inv_non, ry.inv_bl]; cases h; exact ⟨rfl, by simp⟩
  · rw [rx.inv_bl, ry.inv_non]; cases h; exact ⟨rfl, by simp⟩
  · rw [rx.inv_non, ry.inv_str]; cases h; exact ⟨rfl, by simp⟩
  · rw [rx.inv_str, ry.inv_non]; cases h; exact ⟨rfl, by simp⟩
  · rw [rx.inv_bl, ry.inv_str]; cases h; exact ⟨rfl, by simp⟩
  · rw [rx.inv_str, ry.inv_bl]; cases h; exact ⟨rfl, by simp⟩
  · cases h
section
variable {K : PySem.W.Frag} {w : World}
/-- what two values are, the same data -/
def SameP (K : PySem.W.Frag) (H : Hp) (x y : V) : Prop := ∃ d, Dp K H x d ∧ Dp K H y d ∧ SeqAt.shaped d = true
def rEqK (K : PySem.W.Frag) : R2 := fun x y H Q => EqR K H (SameP K H) x y ∧ Q (.bl true) H
theorem op_eqK {X : Cx} (hu : X.A.units + 66 < cLine) : OpR X (compareOp .Eq) (rEqK X.K) := by
  intro pins s σ H x y v u Q I rx ry h
  obtain ⟨h, q⟩ := h
  refine eqR_run I (A := X.A) (by omega) (fun x y v u f rx ry => ?_) h rx ry _ _ ⟨.bl true, H, I, rfl, q⟩
  obtain ⟨d, h1, h2, h3⟩ := f
  obtain ⟨as, r1⟩ := Dp.reads I d x v h1 rx
  obtain ⟨bs, r2⟩ := Dp.reads I d y u h2 ry
  have e := SeqAt.eqAt_reads d d X.A.in1 s v u as bs r1 r2 (SeqAt.canLay_of_shaped h3) (SeqAt.canLay_of_shaped h3) (SeqAt.room_of_shaped h3 (by show X.A.units + 1 + 64 < cLine; omega))
  rw [SeqAt.eqv_refl d (SeqAt.canLay_of_shaped h3)] at e
  exact e.eqP
theorem RepF.memb {H : Hp} {kvs : List (Key × D)} {gs : List (Key × V)} (r : RepF K w H kvs gs) : ∀ p ∈ gs, ∃ kv ∈ kvs, kv.1 = p.1 ∧ Rep K w H kv.2 p.2 := by
  induction r with
  | nil => intro p hp; cases hp
  | @cons k d x fs gs h l ih =>
    intro p hp
    rcases List.mem_cons.mp hp with rfl | hp
    · exact ⟨(k, d), by simp, rfl, h⟩
    · obtain ⟨kv, h1, h2⟩ := ih p hp
      exact ⟨kv, List.mem_cons_of_mem _ h1, h2⟩
theorem rr_eq : R2R K w (fun x y H Q => (rEq x y H Q ∨ rEqD K x y H Q) ∨ rEqK K x y H Q) oEq := fun dx dy M Q' x y H Q rm rx ry h k => by
  unfold oEq at h
  split at h
  · rename_i b q
    obtain ⟨h1, h2⟩ := scal_ok q rx ry
    exact .inl (.inl ⟨h1, by rw [h2]; exact k.now rm (.bl _) h⟩)
  · rcases h with ⟨p, q, h1, h2, h3, h4, h5⟩ | ⟨⟨a, b, kvs, kvs', rfl, rfl, ha, hb, hl, hall⟩, h5⟩
    · exact .inl (.inr ⟨p, q, h1.dp rm rx, h2.dp rm ry, h3, h4, k.now rm (.bl _) h5⟩)
    · obtain ⟨gs, g1, g2⟩ := rm a _ ha
      obtain ⟨gs', g1', g2'⟩ := rm b _ hb
      refine .inr ⟨.inr ⟨a, b, gs, gs', rx.inv_ref, ry.inv_ref, g1, g1', by rw [g2.length, g2'.length, hl], fun p hp => ?_⟩, k.now rm (.bl _) h5⟩
      obtain ⟨kv, m1, e1, r1⟩ := g2.memb p hp
      obtain ⟨v1, v2, v3⟩ := hall kv m1
      rw [e1] at v1
      obtain ⟨x, hx, rx2⟩ := (g2'.val p.1).1 _ v1
      exact ⟨x, hx, toPD kv.2, dp_of r1 v2, dp_of rx2 v2, v3⟩
theorem rr_ne : R2R K w (fun x y H Q => rNe x y H Q ∨ rNeD K x y H Q) oNe := fun dx dy M Q' x y H Q rm rx ry h k => by
  unfold oNe at h
  split at h
  · rename_i b q
    obtain ⟨h1, h2⟩ := scal_ok q rx ry
    exact .inl ⟨h1, by rw [h2]; exact k.now rm (.bl _) h⟩
  · obtain ⟨p, q, h1, h2, h3, h4, h5⟩ := h
    exact .inr ⟨p, q, h1.dp rm rx, h2.dp rm ry, h3, h4, k.now rm (.bl _) h5⟩
end
theorem op_eqA {X : Cx} (hu : X.A.units + 66 < cLine) : OpR X (compareOp .Eq) (fun x y H Q => (rEq x y H Q ∨ rEqD X.K x y H Q) ∨ rEqK X.K x y H Q) := OpR.or (OpR.or op_eq (op_eqD (Nat.lt_of_le_of_lt (Nat.add_le_add_left (by decide) _) hu))) (op_eqK hu)
theorem op_neA {X : Cx} (hu : X.A.units + 66 < cLine) : OpR X (compareOp .NotEq) (fun x y H Q => rNe x y H Q ∨ rNeD X.K x y H Q) := OpR.or op_ne (op_neD (Nat.lt_of_le_of_lt (Nat.add_le_add_left (by decide) _) hu))
theorem hu66 {k : Nat} {A : Around} (r : Room k A) : A.units + 66 < cLine := by have := r.un; omega

/-! ### membership -/
def flatD : D → Bool
  | .non | .bl _ | .int _ | .str _ => true
  | _ => false
def eqF : D → D → Bool
  | .non, .non => true
  | .bl a, .bl b => a == b
  | .bl a, .int j => (if a then 1 else 0) == j
  | .int i, .bl b => i == (if b then 1 else 0)
  | .int i, .int j => i == j
  | .str a, .str b => a == b
  | _, _ => false
def inD (x : D) (ds : List D) : Bool := ds.any fun y => eqF y x
section
variable {K : PySem.W.Frag} {w : World} {H : Hp} {M : Mm}
theorem flat_rep {d : D} {v : V} (r : Rep K w H d v) (h : flatD d = true) : flatV v = true := by
  cases r <;> first | rfl | cases h
theorem flat_all : ∀ {ds : List D} {xs : List V}, RepL K w H ds xs → ds.all flatD = true → xs.all flatV = true
  | _, _, .nil, _ => rfl
  | _, _, .cons r l, h => by
    rw [List.all_cons, Bool.and_eq_true] at h
    rw [List.all_cons, flat_rep r h.1, flat_all l h.2]; rfl
theorem eqF_rep {x y : D} {v u : V} (rx : Rep K w H x v) (ry : Rep K w H y u) (hx : flatD x = true) (hy : flatD y = true) : eqV v u = eqF x y := by
  cases rx <;> cases ry <;> first | rfl | (exfalso; revert hx hy; simp [flatD])
theorem inD_rep {x : D} {v : V} (rx : Rep K w H x v) (hx : flatD x = true) : ∀ {ds : List D} {xs : List V}, RepL K w H ds xs → ds.all flatD = true → inV v xs = inD x ds
  | _, _, .nil, _ => rfl
  | _, _, .cons r l, h => by
    rw [List.all_cons, Bool.and_eq_true] at h
    have ih := inD_rep rx hx l h.2
    unfold inV at ih ⊢
    unfold inD at ih ⊢
    rw [List.any_cons, List.any_cons, ih, eqF_rep r rx h.1 hx]
end
/-- a key of a dict -/
def isKeyD : D → Option Key
  | .int i => some (.inl i)
  | .str x => some (.inr x)
  | _ => none
theorem isKeyD_eq {x : D} {k : Key} (h : isKeyD x = some k) : x = keyD k := by
  unfold isKeyD at h
  split at h <;> cases h <;> rfl
def inM (x : D) (y : D) (M : Mm) (Q : Bool → Prop) : Prop := match x, y with
  | .str c, .str z => ∃ n, c = ⟨#[n]⟩ ∧ Q (decide (n ∈ z.cps.toList))
  | .str z, .kd kvs => Q (kvs.lookup z).isSome
  | x, .tup ds => flatD x = true ∧ ds.all flatD = true ∧ Q (inD x ds)
  | x, .ref a => (∃ ds, IsL M a ds ∧ flatD x = true ∧ ds.all flatD = true ∧ Q (inD x ds)) ∨ ∃ kvs k, M a = some (.dk kvs) ∧ isKeyD x = some k ∧ Q (valD kvs k).isSome
  | _, _ => False
def oIn (neg : Bool) : D2 := fun x y M Q => inM x y M fun b => Q (.bl (if neg then !b else b)) M
def rKd (K : PySem.W.Frag) (w : World) (neg : Bool) : R2 := fun x y H Q => ∃ d es n z r, KDict K w d es n ∧ x = .str z ∧ y = .ref d ∧ PySem.W.nsIn K d z = some r ∧ Q (.bl (if neg then !r.isSome else r.isSome)) H
def rDk (neg : Bool) : R2 := fun x y H Q => ∃ a o, y = .ref a ∧ DGet H a x o ∧ Q (.bl (if neg then !o.isSome else o.isSome)) H
section
variable {X : Cx}
theorem op_kdA : OpR X (compareOp .In) (rKd X.K X.w false) := fun pins s σ H x y v u Q I rx ry ⟨d, es, n, z, r, D, h1, h2, h3, h4⟩ => op_in_kd D pins s σ H x y v u Q I rx ry ⟨z, r, h1, h2, h3, h4⟩
theorem op_kdN : OpR X (compareOp .NotIn) (rKd X.K X.w true) := fun pins s σ H x y v u Q I rx ry ⟨d, es, n, z, r, D, h1, h2, h3, h4⟩ => op_notIn_kd D pins s σ H x y v u Q I rx ry ⟨z, r, h1, h2, h3, h4⟩
theorem op_dkA (hu : X.A.units + 1 < cLine) : OpR X (compareOp .In) (rDk false) := fun pins s σ H x y v u Q I rx ry ⟨a, o, h1, h2, h3⟩ => by
  subst h1
  cases (show u = Value.ref a from ry)
  exact d_in hu I h2 rx fun s' I' => ⟨.bl o.isSome, H, I', rfl, h3⟩
theorem op_dkN (hu : X.A.units + 1 < cLine) : OpR X (compareOp .NotIn) (rDk true) := fun pins s σ H x y v u Q I rx ry ⟨a, o, h1, h2, h3⟩ => by
  subst h1
  cases (show u = Value.ref a from ry)
  exact d_notIn hu I h2 rx fun s' I' => ⟨.bl (!o.isSome), H, I', rfl, h3⟩
def rInS (neg : Bool) : R2 := fun x y H Q => ∃ (c : Nat) (z : Str), x = .str ⟨#[c]⟩ ∧ y = .str z ∧ Q (.bl (if neg then !decide (c ∈ z.cps.toList) else decide (c ∈ z.cps.toList))) H
abbrev rInA (K : PySem.W.Frag) (w : World) (neg : Bool) : R2 := fun x y H Q => rInS neg x y H Q ∨ rKd K w neg x y H Q ∨ rIn K neg x y H Q ∨ rDk neg x y H Q
theorem op_inA (hu : X.A.units + 1 < cLine) : OpR X (compareOp .In) (rInA X.K X.w false) := by
  have h : OpR X (compareOp .In) (rInS false) := op_in_sign
  exact OpR.or h (OpR.or op_kdA (OpR.or op_in_seq (op_dkA hu)))
theorem op_notInA (hu : X.A.units + 1 < cLine) : OpR X (compareOp .NotIn) (rInA X.K X.w true) := by
  have h : OpR X (compareOp .NotIn) (rInS true) := op_notIn_sign
  exact OpR.or h (OpR.or op_kdN (OpR.or op_notIn_seq (op_dkN hu)))
end
theorem rr_in {K : PySem.W.Frag} {w : World} {neg : Bool} : R2R K w (rInA K w neg) (oIn neg) := fun dx dy M Q' x y H Q rm rx ry h k => by
  unfold oIn inM at h
  split at h
  · obtain ⟨n, h1, h2⟩ := h
    subst h1
    exact .inl ⟨n, _, rx.inv_str, ry.inv_str, k.now rm (.bl _) h2⟩
  · rename_i z kvs
    obtain ⟨a, rfl, ka⟩ := ry.inv_kd
    obtain ⟨es, n, kd, _⟩ := ka.kd
    cases e : kvs.lookup z with
    | none =>
      rw [e] at h
      exact .inr (.inl ⟨a, es, n, z, none, kd, rx.inv_str, rfl, ka.miss z e, k.now rm (.bl _) h⟩)
    | some d =>
      rw [e] at h
      obtain ⟨u, v, h1, h2, _⟩ := ka.hit z d e
      exact .inr (.inl ⟨a, es, n, z, some u, kd, rx.inv_str, rfl, h1, k.now rm (.bl _) h⟩)
  · obtain ⟨h1, h2, h3⟩ := h
    obtain ⟨a, xs, rfl, sq, l⟩ := ry.inv_tup
    exact .inr (.inr (.inl ⟨a, xs, rfl, .inr sq, flat_rep rx h1, flat_all l h2, k.now rm (.bl _) (by rw [inD_rep rx h1 l h2]; exact h3)⟩))
  · rename_i a
    rw [ry.inv_ref]
    rcases h with ⟨ds, h0, h1, h2, h3⟩ | ⟨kvs, kk, h0, h1, h2⟩
    · obtain ⟨xs, sq, l⟩ := h0.sq rm
      exact .inr (.inr (.inl ⟨a, xs, rfl, .inl sq, flat_rep rx h1, flat_all l h2, k.now rm (.bl _) (by rw [inD_rep rx h1 l h2]; exact h3)⟩))
    · obtain ⟨gs, e, r⟩ := rm _ _ h0
      have ex := isKeyD_eq h1
      subst ex
      rw [keyD_rep rx]
      exact .inr (.inr (.inr ⟨a, _, rfl, DGet.k e, k.now rm (.bl _) (by rw [r.val_isSome]; exact h2)⟩))
  · exact h.elim
end DH

set_option Elab.async false
set_option linter.all false
set_option autoImplicit false
set_option maxRecDepth 100000
set_option maxHeartbeats 2000000
/-! Deep readings: subscripts, slices, built-ins, tests. -/
namespace DH
open PySem PySem.Spec PyProof.Rows L2
theorem Flt.rep {K : PySem.W.Frag} {w : World} {H : Hp} {d : D} {v : V} (f : Flt d v) : Rep K w H d v := by
  cases f
  · exact .non
  · exact .bl _
  · exact .int _
  · exact .str _
theorem atI_rep {K : PySem.W.Frag} {w : World} {H : Hp} {ds : List D} {xs : List V} (l : RepL K w H ds xs) {i : Int} {d : D} (h : atI ds i = some d) : ∃ x, atI xs i = some x ∧ Rep K w H d x := by
  unfold atI at h ⊢
  rw [l.length]
  cases e : ixN ds.length i with
  | none => rw [e] at h; cases h
  | some j =>
    rw [e] at h
    exact l.get h
/-! ### subscripts -/
def oIx : D2 := fun x y M Q => match x, y with
  | .tup ds, .int i => ∃ d, atI ds i = some d ∧ Q d M
  | .str z, .int i => z.length ≤ sizeLine ∧ ∃ c, atI z.cps.toList i = some c ∧ Q (.str ⟨#[c]⟩) M
  | .kd kvs, .str z => ∃ d, kvs.lookup z = some d ∧ Q d M
  | .fl ds, .int i => ∃ d, atI ds i = some d ∧ Q d M
  | .ref a, y => (∃ ds i d, IsL M a ds ∧ y = .int i ∧ atI ds i = some d ∧ Q d M) ∨ ∃ kvs k d, M a = some (.dk kvs) ∧ isKeyD y = some k ∧ valD kvs k = some d ∧ Q d M
  | _, _ => False
def rIxK (K : PySem.W.Frag) (w : World) : R2 := fun x y H Q => ∃ d es n z u v, KDict K w d es n ∧ x = .ref d ∧ y = .str z ∧ PySem.W.nsIn K d z = some (some u) ∧ RelV v u ∧ Q v H
def rIxD : R2 := fun x y H Q => ∃ a v, x = .ref a ∧ DGet H a y (some v) ∧ Q v H
section
variable {X : Cx}
theorem ix_kd : IxR X (rIxK X.K X.w) := by
  intro value slice pins s σ H x y v u Q I rx ry h hs
  obtain ⟨d, es, n, z, u0, v0, D, rfl, rfl, h1, h2, h3⟩ := h
  have e : v = Value.ref d := rx
  subst e
  exact tail_any (kd_type D I) PySem.F.slot_dict_getitem.lookup (op_item_kd D pins s σ H (.ref d) (.str z) _ _ Q I rfl ry ⟨z, u0, v0, rfl, rfl, h1, h2, h3⟩) hs
theorem ix_dk (hu : X.A.units + 1 < cLine) : IxR X rIxD := by
  intro value slice pins s σ H x y v u Q I rx ry h hs
  obtain ⟨a, v0, rfl, g, q⟩ := h
  have e : v = Value.ref a := rx
  subst e
  exact tail_any (dict_typeIs I g) PySem.F.slot_dict_getitem.lookup (d_getItem hu I g ry fun w' s3 I3 rw' => ⟨v0, H, I3, rw', q⟩) hs
abbrev rIxA (K : PySem.W.Frag) (w : World) : R2 := fun x y H Q => rIxT K x y H Q ∨ rIxL K x y H Q ∨ rIxS x y H Q ∨ rIxK K w x y H Q ∨ rIxD x y H Q
theorem ix_all (hu : X.A.units + 1 < cLine) : IxR X (rIxA X.K X.w) := IxR.or ix_tup (IxR.or ix_list (IxR.or ix_str (IxR.or ix_kd (ix_dk hu))))
end
theorem rr_ix {K : PySem.W.Frag} {w : World} : R2R K w (rIxA K w) oIx := fun dx dy M Q' x y H Q rm rx ry h k => by
  unfold oIx at h
  split at h
  · obtain ⟨d, h1, h2⟩ := h
    obtain ⟨a, xs, rfl, sq, l⟩ := rx.inv_tup
    obtain ⟨v, e, r⟩ := atI_rep l h1
    exact .inl ⟨a, xs, _, v, rfl, ry.inv_int, sq, e, k.now rm r h2⟩
  · obtain ⟨h0, c, h1, h2⟩ := h
    exact .inr (.inr (.inl ⟨_, _, c, rx.inv_str, ry.inv_int, h0, h1, k.now rm (.str _) h2⟩))
  · obtain ⟨d, h1, h2⟩ := h
    obtain ⟨a, rfl, ka⟩ := rx.inv_kd
    obtain ⟨es, n, kd, _⟩ := ka.kd
    obtain ⟨u, v, g1, g2, g3⟩ := ka.hit _ _ h1
    exact .inr (.inr (.inr (.inl ⟨a, es, n, _, u, v, kd, rfl, ry.inv_str, g1, g2, k.now rm g3.rep h2⟩)))
  · obtain ⟨d, h1, h2⟩ := h
    obtain ⟨a, xs, rfl, sq, l⟩ := rx.inv_fl
    obtain ⟨v, e, r⟩ := atI_rep l h1
    exact .inr (.inl ⟨a, xs, _, v, rfl, ry.inv_int, sq.sq, e, k.now rm r h2⟩)
  · rw [rx.inv_ref]
    rcases h with ⟨ds, i, d, h0, h1, h2, h3⟩ | ⟨kvs, kk, d, h0, h1, h2, h3⟩
    · obtain ⟨xs, sq, l⟩ := h0.sq rm
      obtain ⟨v, e, r⟩ := atI_rep l h2
      subst h1
      exact .inr (.inl ⟨_, xs, i, v, rfl, ry.inv_int, sq, e, k.now rm r h3⟩)
    · obtain ⟨gs, e, r⟩ := rm _ _ h0
      have ex := isKeyD_eq h1
      subst ex
      obtain ⟨v, e1, e2⟩ := (r.val kk).1 d h2
      rw [keyD_rep ry]
      exact .inr (.inr (.inr (.inr ⟨_, v, rfl, by rw [← e1]; exact DGet.k e, k.now rm e2 h3⟩)))
  · exact h.elim

/-! ### slices -/
abbrev DO := DEnv → Mm → (Option Int → Mm → Prop) → Prop
def toD (K : PySem.W.Frag) (w : World) (do_ : DO) : TO := fun σ H Q => ∃ E M Q', Sl K w H σ E ∧ Rm K w H M ∧ do_ E M Q' ∧ ∀ o H' M', Tx K H H' → Rm K w H' M' → Q' o M' → Q o H'
def dNoPart : DO := fun _ M Q => Q none M
def dPart (de : DE) : DO := fun E M Q => de E M fun d M1 => match d with
  | .int i => Q (some i) M1
  | _ => False
def cutL (α : Type) (xs : List α) (lo hi : Option Int) : List α := (xs.drop (HT.sIx xs.length 0 lo)).take (HT.sIx xs.length xs.length hi - HT.sIx xs.length 0 lo)
def oSl (x : D) (lo hi : Option Int) (M : Mm) (Q : DQ) : Prop := match x with
  | .tup ds => Q (.tup (cutL D ds lo hi)) M
  | .str z => z.length ≤ sizeLine ∧ Q (.str (cutS z lo hi)) M
  | .ref a => ∃ ds, IsL M a ds ∧ ∀ p, M p = none → Q (.ref p) (updM M p (.lst (cutL D ds lo hi)))
  | _ => False
def dSl (de : DE) (dl dh : DO) : DE := fun E M Q => de E M fun x M1 => dl E M1 fun lo M2 => dh E M2 fun hi M3 => oSl x lo hi M3 Q
section
variable {X : Cx} {e : Expr} {de : DE} {lo hi : Option Expr} {dl dh : DO} {pos p2 : Pos}
theorem po_imp {o : Option Expr} {t t' : TO} (h : PO X o t) (i : ∀ σ H Q, t' σ H Q → t σ H Q) : PO X o t' := ⟨fun pins s σ H Q I q => h.run pins s σ H Q I (i σ H Q q)⟩
abbrev RO (X : Cx) (o : Option Expr) (d : DO) : Prop := PO X o (toD X.K X.w d)
theorem ro_none : RO X none dNoPart := po_imp po_none fun σ H Q ⟨E, M, Q', sl, rm, h, k⟩ => k _ H M (Tx.refl H) rm h
theorem ro_some (h : RE X e de) : RO X (some e) (dPart de) := po_imp (po_some h) fun σ H Q ⟨E, M, Q', sl, rm, h, k⟩ => ⟨E, M, _, sl, rm, h, fun v H1 d M1 t1 rm1 r1 q1 => by
  split at q1
  · rename_i i
    exact ⟨i, r1.inv_int, k _ _ _ t1 rm1 q1⟩
  · exact q1.elim⟩
theorem cut_rep {K : PySem.W.Frag} {w : World} {H : Hp} {ds : List D} {xs : List V} (l : RepL K w H ds xs) (lo hi : Option Int) : RepL K w H (cutL D ds lo hi) (cutV xs lo hi) := by
  unfold cutL cutV
  rw [l.length]
  exact (l.drop _).take _
theorem re_slice (he : RE X e de) (hl : RO X lo dl) (hh : RO X hi dh) : RE X (.Subscript e (.Slice lo hi none p2) pos) (dSl de dl dh) :=
  pe_imp (pe_slice (SlR.or sl_tupA (SlR.or sl_str sl_list)) he hl hh) fun σ H Q ⟨E, M, Q', sl, rm, h, k⟩ => by
    refine ⟨E, M, _, sl, rm, h, fun v H1 d M1 t1 rm1 r1 q1 => ⟨E, M1, _, sl.mono t1, rm1, q1, fun l H2 M2 t2 rm2 q2 => ⟨E, M2, _, (sl.mono t1).mono t2, rm2, q2, fun u H3 M3 t3 rm3 q3 => ?_⟩⟩⟩
    have r3 := (r1.mono t2).mono t3
    have k3 := ((k.tx t1).tx t2).tx t3
    unfold oSl at q3
    split at q3
    · rename_i ds
      obtain ⟨a, xs, rfl, sq, ll⟩ := r3.inv_tup
      refine .inl ⟨a, xs, rfl, sq, fun e => ?_, fun _ => k3.newT rm3 (cut_rep ll l u) q3⟩
      refine k3.now rm3 (.tup sq ?_) q3
      have c := cut_rep ll l u
      have ce : cutV xs l u = xs := by
        unfold cutV
        rw [e.1, e.2, List.drop_zero, Nat.sub_zero, List.take_length]
      rw [ce] at c
      exact c
    · exact .inr (.inl ⟨_, r3.inv_str, q3.1, k3.now rm3 (.str _) q3.2⟩)
    · obtain ⟨ds, h1, h2⟩ := q3
      obtain ⟨xs, sq, ll⟩ := h1.sq rm3
      exact .inr (.inr ⟨_, xs, r3.inv_ref, sq, k3.newL rm3 (cut_rep ll l u) h2⟩)
    · exact q3.elim
end

/-! ### built-ins -/
section
variable {K : PySem.W.Frag} {w : World} {H : Hp}
theorem RepL.inv1 {d : D} {xs : List V} (r : RepL K w H [d] xs) : ∃ v, xs = [v] ∧ Rep K w H d v := by
  cases r with
  | cons a t => cases t; exact ⟨_, rfl, a⟩
theorem RepL.inv2 {d e : D} {xs : List V} (r : RepL K w H [d, e] xs) : ∃ v u, xs = [v, u] ∧ Rep K w H d v ∧ Rep K w H e u := by
  cases r with
  | cons a t =>
    obtain ⟨u, rfl, b⟩ := t.inv1
    exact ⟨_, u, rfl, a, b⟩
end
def oLen : DL := fun ds M Q => match ds with
  | [.str z] => z.length ≤ sizeLine ∧ Q (.int z.length) M
  | [.tup ds] => Q (.int ds.length) M
  | [.kd kvs] => Q (.int kvs.length) M
  | [.fl ds] => Q (.int ds.length) M
  | [.ref a] => (∃ ds, IsL M a ds ∧ Q (.int ds.length) M) ∨ ∃ kvs, M a = some (.dk kvs) ∧ Q (.int kvs.length) M
  | _ => False
def rLenK (K : PySem.W.Frag) (w : World) : List V → Hp → VK → Prop := fun xs H Q => ∃ d es n, KDict K w d es n ∧ xs = [.ref d] ∧ (es.size : Int) < 2 ^ 63 ∧ Q (.int es.size) H
theorem exact_of (es : Array DictEntry) (n : Nat) : ({ cls := .type "dict", dict := none, data := .dict es n, slots := #[] } : Obj).ExactDict := by
  first
    | exact ⟨rfl, rfl, rfl⟩
    | exact ⟨rfl, rfl⟩
    | constructor <;> rfl
theorem call_lenK {X : Cx} : CallR X (.builtin "len") (rLenK X.K X.w) := by
  intro pins s σ H xs us Q I r h
  obtain ⟨d, es, n, D, rfl, hz, q⟩ := h
  obtain ⟨u, rfl, ru⟩ := vals1 r
  have e : u = Value.ref d := ru
  subst e
  have hm : s.heap.DictRaw d es n := ⟨_, I.kIn _ _ D.at_, exact_of es n, rfl⟩
  refine Calls.call_function_entry PySem.kind_len PySem.plain_len PySem.entry_len (PySem.args_len1 _) ?_
  unfold Builtin.«len»
  refine wpAny_bind (m := oneArg "len" _) (wpAny_pure ?_)
  refine wpAny_bind (m := callSpecial? (.ref d) (Str.ofString "__len__")) (wpAny_callSpecial?_slot (name := Str.ofString "__len__") hm.typeIs PySem.F.slot_dict_len (PySem.call_len_raw D.low hm ?_))
  show wpAny _ _ _ _ _ { s with toks := s.toks + 1 }
  refine wpAny_bind (wpAny_holding (wpAny_pure ?_))
  refine wpAny_bind (wpAny_letGo ?_)
  show wpAny _ _ (if ((es.size : Nat) : Int) < 0 then _ else _) _ _ _
  rw [if_neg (by omega)]
  show wpAny _ _ (if ((es.size : Nat) : Int) ≥ 2 ^ 63 then _ else _) _ _ _
  rw [if_neg (by omega)]
  refine wpAny_bind (wpAny_mkInt (wpAny_pure ⟨_, rfl, ?_⟩))
  exact ⟨.int es.size, H, I.tok _, ⟨_, rfl⟩, q⟩
end DH

set_option Elab.async false
set_option linter.all false
set_option autoImplicit false
set_option maxRecDepth 100000
set_option maxHeartbeats 2000000
/-! Deep readings: built-ins called, methods, isinstance. -/
namespace DH
open PySem PySem.Spec PyProof.Rows L2
section
variable {K : PySem.W.Frag} {w : World} {H : Hp} {M : Mm}
theorem RepL.intsInv : ∀ {ns : List Int} {xs : List V}, RepL K w H (ns.map D.int) xs → xs = ns.map V.int
  | [], _, .nil => rfl
  | n :: ns, _, .cons r l => by rw [r.inv_int, RepL.intsInv l]; rfl
theorem IsL.ints {a : Addr} {ns : List Int} (h : IsL M a (ns.map D.int)) (rm : Rm K w H M) : SqL K H a (ns.map V.int) := by
  obtain ⟨xs, sq, l⟩ := h.sq rm
  rw [l.intsInv] at sq
  exact sq
end
theorem call_lenA {X : Cx} : CallR X (.builtin "len") (fun xs H Q => rLenK X.K X.w xs H Q ∨ (∃ x n, xs = [x] ∧ LenV X.K x H n ∧ Q (.int n) H) ∨ ∃ a kvs, xs = [V.ref a] ∧ H a = some (.dK kvs) ∧ Q (.int kvs.length) H) :=
  CallR.or call_lenK (CallR.or call_len call_lenD)
section
variable {K : PySem.W.Frag} {w : World}
theorem rl_len : RLR K w (fun xs H Q => rLenK K w xs H Q ∨ (∃ x n, xs = [x] ∧ LenV K x H n ∧ Q (.int n) H) ∨ ∃ a kvs, xs = [V.ref a] ∧ H a = some (.dK kvs) ∧ Q (.int kvs.length) H)
    oLen := fun ds M Q' xs H Q rm rl h k => by
  unfold oLen at h
  split at h
  · obtain ⟨v, rfl, r⟩ := rl.inv1
    rw [r.inv_str]
    exact .inr (.inl ⟨_, _, rfl, ⟨h.1, rfl⟩, k.now rm (.int _) h.2⟩)
  · obtain ⟨v, rfl, r⟩ := rl.inv1
    obtain ⟨a, xs, rfl, sq, l⟩ := r.inv_tup
    exact .inr (.inl ⟨_, xs.length, rfl, .inr ⟨xs, sq, rfl⟩, k.now rm (.int _) (by rw [l.length]; exact h)⟩)
  · rename_i kvs
    obtain ⟨v, rfl, r⟩ := rl.inv1
    obtain ⟨a, rfl, ka⟩ := r.inv_kd
    obtain ⟨es, n, kd, hz⟩ := ka.kd
    have := ka.small
    exact .inl ⟨a, es, n, kd, rfl, by omega, k.now rm (.int _) (by rw [hz]; exact h)⟩
  · obtain ⟨v, rfl, r⟩ := rl.inv1
    obtain ⟨a, xs, rfl, sq, l⟩ := r.inv_fl
    exact .inr (.inl ⟨_, xs.length, rfl, .inl ⟨xs, sq.sq, rfl⟩, k.now rm (.int _) (by rw [l.length]; exact h)⟩)
  · obtain ⟨v, rfl, r⟩ := rl.inv1
    rw [r.inv_ref]
    rcases h with ⟨ds, h1, h2⟩ | ⟨kvs, h1, h2⟩
    · obtain ⟨xs, sq, l⟩ := h1.sq rm
      exact .inr (.inl ⟨_, xs.length, rfl, .inl ⟨xs, sq, rfl⟩, k.now rm (.int _) (by rw [l.length]; exact h2)⟩)
    · obtain ⟨gs, e, r⟩ := rm _ _ h1
      exact .inr (.inr ⟨_, gs, rfl, e, k.now rm (.int _) (by rw [r.length]; exact h2)⟩)
  · exact h.elim
end
def oInt1 : DL := fun ds M Q => match ds with
  | [.int i] => Q (.int i) M
  | [.bl b] => Q (.int (if b then 1 else 0)) M
  | _ => False
def oAbs : DL := fun ds M Q => match ds with
  | [.int i] => Q (.int (if i < 0 then -i else i)) M
  | _ => False
def oMin2 : DL := fun ds M Q => match ds with
  | [.int i, .int j] => Q (.int (if j < i then j else i)) M
  | _ => False
def oTuple : DL := fun ds M Q => match ds with
  | [.tup xs] => Q (.tup xs) M
  | [.ref a] => ∃ xs, IsL M a xs ∧ Q (.tup xs) M
  | _ => False
def oList : DL := fun ds M Q => match ds with
  | [.tup xs] => ∀ p, M p = none → Q (.ref p) (updM M p (.lst xs))
  | [.ref a] => ∃ xs, IsL M a xs ∧ ∀ p, M p = none → Q (.ref p) (updM M p (.lst xs))
  | _ => False
section
variable {K : PySem.W.Frag} {w : World}
theorem rl_int1 : RLR K w (fun xs H Q => (∃ i, xs = [.int i] ∧ Q (.int i) H) ∨ ∃ k, xs = [.bl k] ∧ Q (.int (if k then 1 else 0)) H) oInt1 := fun ds M Q' xs H Q rm rl h k => by
  unfold oInt1 at h
  split at h
  · obtain ⟨v, rfl, r⟩ := rl.inv1
    rw [r.inv_int]
    exact .inl ⟨_, rfl, k.now rm (.int _) h⟩
  · obtain ⟨v, rfl, r⟩ := rl.inv1
    rw [r.inv_bl]
    exact .inr ⟨_, rfl, k.now rm (.int _) h⟩
  · exact h.elim
theorem rl_abs : RLR K w (fun xs H Q => ∃ i, xs = [.int i] ∧ Q (.int (if i < 0 then -i else i)) H) oAbs := fun ds M Q' xs H Q rm rl h k => by
  unfold oAbs at h
  split at h
  · obtain ⟨v, rfl, r⟩ := rl.inv1
    rw [r.inv_int]
    exact ⟨_, rfl, k.now rm (.int _) h⟩
  · exact h.elim
theorem rl_min2 : RLR K w (fun xs H Q => ∃ i j, xs = [.int i, .int j] ∧ Q (.int (if j < i then j else i)) H) oMin2 := fun ds M Q' xs H Q rm rl h k => by
  unfold oMin2 at h
  split at h
  · obtain ⟨v, u, rfl, r, r2⟩ := rl.inv2
    rw [r.inv_int, r2.inv_int]
    exact ⟨_, _, rfl, k.now rm (.int _) h⟩
  · exact h.elim
theorem rl_tuple : RLR K w (fun xs H Q => ∃ p ys, xs = [.ref p] ∧ ((SqL K H p ys ∧ ∀ l, H l = none → Q (.ref l) (upd H l (.tup ys))) ∨ (SqT K H p ys ∧ Q (.ref p) H))) oTuple := fun ds M Q' xs H Q rm rl h k => by
  unfold oTuple at h
  split at h
  · obtain ⟨v, rfl, r⟩ := rl.inv1
    obtain ⟨a, xs, rfl, sq, l⟩ := r.inv_tup
    exact ⟨a, xs, rfl, .inr ⟨sq, k.now rm (.tup sq l) h⟩⟩
  · obtain ⟨v, rfl, r⟩ := rl.inv1
    obtain ⟨ds, h1, h2⟩ := h
    obtain ⟨xs, sq, l⟩ := h1.sq rm
    rw [r.inv_ref]
    exact ⟨_, xs, rfl, .inl ⟨sq, k.newT rm l h2⟩⟩
  · exact h.elim
theorem rl_list : RLR K w (fun xs H Q => ∃ p ys, xs = [.ref p] ∧ (SqL K H p ys ∨ SqT K H p ys) ∧ ∀ l, H l = none → Q (.ref l) (upd H l (.lst ys))) oList := fun ds M Q' xs H Q rm rl h k => by
  unfold oList at h
  split at h
  · obtain ⟨v, rfl, r⟩ := rl.inv1
    obtain ⟨a, xs, rfl, sq, l⟩ := r.inv_tup
    exact ⟨a, xs, rfl, .inr sq, k.newL rm l h⟩
  · obtain ⟨v, rfl, r⟩ := rl.inv1
    obtain ⟨ds, h1, h2⟩ := h
    obtain ⟨xs, sq, l⟩ := h1.sq rm
    rw [r.inv_ref]
    exact ⟨_, xs, rfl, .inl sq, k.newL rm l h2⟩
  · exact h.elim
end

/-! ### types -/
inductive Ty where
  | non | bl | int | str | tup | lst | dct
  deriving DecidableEq
def Ty.nm : Ty → String
  | .non => "NoneType" | .bl => "bool" | .int => "int" | .str => "str" | .tup => "tuple" | .lst => "list" | .dct => "dict"
def isTy : Ty → Ty → Bool
  | .bl, .int => true
  | .non, .non => true
  | .bl, .bl => true
  | .int, .int => true
  | .str, .str => true
  | .tup, .tup => true
  | .lst, .lst => true
  | .dct, .dct => true
  | _, _ => false
theorem kit_all (a b : Ty) : kitB a.nm b.nm = some (isTy a b) := by
  cases a <;> cases b <;> decide +kernel
def tyM (x : D) (M : Mm) (q : Ty → Prop) : Prop := match x with
  | .non => q .non
  | .bl _ => q .bl
  | .int _ => q .int
  | .str _ => q .str
  | .tup _ => q .tup
  | .kd _ => q .dct
  | .ref a => (∃ ds, IsL M a ds ∧ q .lst) ∨ ∃ kvs, M a = some (.dk kvs) ∧ q .dct
  | _ => False
theorem ty_rep {K : PySem.W.Frag} {w : World} {H : Hp} {M : Mm} {x : D} {v : V} {q : Ty → Prop} (h : tyM x M q) (rm : Rm K w H M) (r : Rep K w H x v) : ∃ t : Ty, q t ∧ TyX K H v (.type t.nm) := by
  unfold tyM at h
  split at h
  · rw [r.inv_non]; exact ⟨_, h, .base .non⟩
  · rw [r.inv_bl]; exact ⟨_, h, .base (.bl _)⟩
  · rw [r.inv_int]; exact ⟨_, h, .base (.int _)⟩
  · rw [r.inv_str]; exact ⟨_, h, .base (.str _)⟩
  · obtain ⟨a, xs, rfl, sq, l⟩ := r.inv_tup
    refine ⟨_, h, ?_⟩
    rcases sq with (e | ⟨o, e⟩) | ⟨o, its, n, e, c, _⟩
    · exact .base (.tup e)
    · exact .fTuple e
    · exact .kTuple e c
  · obtain ⟨a, rfl, ka⟩ := r.inv_kd
    obtain ⟨es, n, kd, _⟩ := ka.kd
    exact ⟨_, h, .kDict kd.at_ rfl⟩
  · rw [r.inv_ref]
    rcases h with ⟨ds, h1, h2⟩ | ⟨kvs, h1, h2⟩
    · refine ⟨_, h2, ?_⟩
      obtain ⟨xs, e, _⟩ := rm _ _ h1
      exact .base (.lst e)
    · obtain ⟨gs, e, _⟩ := rm _ _ h1
      exact ⟨_, h2, .base (.dK e)⟩
  · exact h.elim
/-- isinstance(e, T), isinstance(e, (T1, T2)) -/
def dIs (cs : List Ty) (de : DE) : DE := fun E M Q => de E M fun d M1 => tyM d M1 fun t => Q (.bl (cs.any (isTy t))) M1
section
variable {X : Cx} {e c1 c2 : Expr} {de : DE} {p pos p2 : Pos} {k2 : Nat → Nat}
theorem re_isi (c : Ty) (he : RE X e de) (hc : PE X c1 (tC (.ty c.nm))) (hg : Gl X "isinstance") (hm : X.mg "isinstance" = none)
    (h1 : starEach [e, c1] X.env = (false, eval e X.env) :: starEach [c1] X.env := by rfl) (h2 : starEach [c1] X.env = (false, eval c1 X.env) :: starEach [] X.env := by rfl) (hpl : (backTo pos (starEach [c1] X.env)).any (·.1) = false := by rfl) :
    RE X (.Call (.Name "isinstance" p) [e, c1] [] pos) (dIs [c] de) :=
  pe_imp (pe_callB call_isi hg hm boot_isinstance (pa_cons he (pa_cons hc pa_nil h2) h1) (by decide) (by decide) h1 hpl) fun σ H Q ⟨E, M, Q', sl, rm, h, k⟩ => by
    refine ⟨E, M, _, sl, rm, h, fun v H1 d M1 t1 rm1 r1 q1 => ?_⟩
    obtain ⟨t, q, ty⟩ := ty_rep q1 rm1 r1
    refine ⟨v, .ty c.nm, .type t.nm, .type c.nm, isTy t c, rfl, .ty _, ty, kit_ty (kit_all t c), ?_⟩
    have q2 : Q' (.bl (isTy t c || false)) M1 := q
    rw [Bool.or_false] at q2
    exact (k.tx t1).now rm1 (.bl _) q2
theorem re_isi2 (a b : Ty) {x1} (he : RE X e de) (hc : PE X c1 (tC (.ty a.nm))) (hd : PE X c2 (tC (.ty b.nm))) (hg : Gl X "isinstance") (hm : X.mg "isinstance" = none)
    (h1 : starEach [e, .Tuple [c1, c2] x1 p2] X.env = (false, eval e X.env) :: starEach [.Tuple [c1, c2] x1 p2] X.env := by rfl) (h2 : starEach [.Tuple [c1, c2] x1 p2] X.env = (false, eval (.Tuple [c1, c2] x1 p2) X.env) :: starEach [] X.env := by rfl)
    (h3 : starEach [c1, c2] X.env = (false, eval c1 X.env) :: starEach [c2] X.env := by rfl) (h4 : starEach [c2] X.env = (false, eval c2 X.env) :: starEach [] X.env := by rfl) (hpl : (backTo pos (starEach [.Tuple [c1, c2] x1 p2] X.env)).any (·.1) = false := by rfl) :
    RE X (.Call (.Name "isinstance" p) [e, .Tuple [c1, c2] x1 p2] [] pos) (dIs [a, b] de) :=
  pe_imp (pe_callB call_isiT hg hm boot_isinstance (pa_cons he (pa_cons (pe_tup (pa_cons hc (pa_cons hd pa_nil h4) h3)) pa_nil h2) h1) (by decide) (by decide) h1 hpl) fun σ H Q ⟨E, M, Q', sl, rm, h, k⟩ => by
    refine ⟨E, M, _, sl, rm, h, fun v H1 d M1 t1 rm1 r1 q1 => ⟨by show 2 ≤ sizeLine; decide, fun p hp => ?_⟩⟩
    obtain ⟨t, q, ty⟩ := ty_rep (M := M1) (K := X.K) (w := X.w) (H := upd H1 p (.tup [.ty a.nm, .ty b.nm])) (x := d) (q := fun t => Q' (.bl ([a, b].any (isTy t))) M1) q1 (rm1.keepNew hp) (r1.mono (Tx.new hp))
    refine ⟨v, p, [.ty a.nm, .ty b.nm], .type t.nm, [.type a.nm, .type b.nm], isTy t a || (isTy t b || false), rfl, upd_same, .cons (.ty _) (.cons (.ty _) .nil), ty, ?_, ?_⟩
    · refine kitAny_cons (kit_ty (kit_all t a)) (fun h => ?_) (fun h => by rw [h]; rfl)
      rw [h, Bool.false_or]
      refine kitAny_cons (kit_ty (kit_all t b)) (fun h => ?_) (fun h => by rw [h]; rfl)
      rw [h]
      exact kitAny_nil
    · exact k _ _ _ _ (t1.trans (Tx.new hp)) (rm1.keepNew hp) (.bl _) q
end

/-! ### methods -/
def dApp (do_ de : DE) : DE := fun E M Q => do_ E M fun o M1 => match o with
  | .ref a => (∃ ds, M1 a = some (.lst ds)) ∧ de E M1 fun d M2 => ∃ ds, M2 a = some (.lst ds) ∧ ds.length < sizeLine ∧ Q .non (updM M2 a (.lst (ds ++ [d])))
  | _ => False
def dGet2 (do_ di dx : DE) : DE := fun E M Q => do_ E M fun o M1 => match o with
  | .ref a => (∃ kvs, M1 a = some (.dk kvs)) ∧ di E M1 fun y M2 => dx E M2 fun z M3 => ∃ kvs k, M3 a = some (.dk kvs) ∧ isKeyD y = some k ∧ Q ((valD kvs k).getD z) M3
  | _ => False
section
variable {X : Cx} {o e f : Expr} {do_ de df : DE} {apos cpos : Pos}
theorem re_append (ho : RE X o do_) (he : RE X e de)
    (hbase : attributeBase o "append" X.env (eval o X.env) = eval o X.env := by rfl)
    (hfew : ((backTo cpos (starEach [e] X.env)).all (fun x => !x.1) && (backToKw cpos (keywordEach [] X.env)).all (fun x => x.1.isSome)
      && decide (([e] : List Expr).length + ([] : List Keyword).length + (if ([] : List Keyword).isEmpty then 0 else 1) < 30)) = true := by rfl)
    (hline : (apos.endLine == cpos.line) = true := by rfl) (hs : starEach [e] X.env = (false, eval e X.env) :: starEach [] X.env := by rfl) (hplain : (backTo cpos (starEach [] X.env)).any (·.1) = false := by rfl) :
    RE X (.Call (.Attribute o "append" apos) [e] [] cpos) (dApp do_ de) :=
  pe_imp (pe_bm PySem.F.plainAttrs_list PySem.F.slot_list_append PySem.F.type_list_append mt_append ho (pa_cons he pa_nil hs) hbase hfew hline hs hplain) fun σ H Q ⟨E, M, Q', sl, rm, h, k⟩ => by
    refine ⟨E, M, _, sl, rm, h, fun v H1 d M1 t1 rm1 r1 q1 => ?_⟩
    split at q1
    · obtain ⟨⟨ds, h1⟩, h2⟩ := q1
      obtain ⟨xs, e1, _⟩ := rm1 _ _ h1
      rw [r1.inv_ref]
      refine ⟨.inl ⟨rfl, xs, SqL.of e1⟩, E, M1, _, sl.mono t1, rm1, h2, fun u H2 d2 M2 t2 rm2 r2 q2 => ?_⟩
      obtain ⟨ds2, h3, h4, h5⟩ := q2
      obtain ⟨ys, e2, l2⟩ := rm2 _ _ h3
      refine ⟨_, ys, u, rfl, rfl, e2, by rw [l2.length]; exact h4, ?_⟩
      have tm : Tx X.K H2 (upd H2 _ (.lst (ys ++ [u]))) := Tx.mut e2 trivial
      exact k _ _ _ _ ((t1.trans t2).trans tm) (rm2.upd (mo := .lst (ds2 ++ [d2])) tm ⟨_, upd_same, (l2.append (.one r2)).mono tm⟩) .non h5
    · exact q1.elim
theorem re_get2 (hu : X.A.units + 1 < cLine) (ho : RE X o do_) (he : RE X e de) (hf : RE X f df) (m : M2 X o "get" apos e f cpos) : RE X (.Call (.Attribute o "get" apos) [e, f] [] cpos) (dGet2 do_ de df) :=
  pe_imp (pe_dget2 hu ho he hf m) fun σ H Q ⟨E, M, Q', sl, rm, h, k⟩ => by
    refine ⟨E, M, _, sl, rm, h, fun v H1 d M1 t1 rm1 r1 q1 => ?_⟩
    split at q1
    · obtain ⟨⟨kvs, h1⟩, h2⟩ := q1
      obtain ⟨gs, e1, _⟩ := rm1 _ _ h1
      rw [r1.inv_ref]
      refine ⟨_, rfl, .inl ⟨gs, .inl e1⟩, E, M1, _, sl.mono t1, rm1, h2, fun y H2 d2 M2 t2 rm2 r2 q2 => ⟨E, M2, _, (sl.mono t1).mono t2, rm2, q2, fun z H3 d3 M3 t3 rm3 r3 q3 => ?_⟩⟩
      obtain ⟨kvs2, kk, h3, h4, h5⟩ := q3
      obtain ⟨gs2, e2, rf⟩ := rm3 _ _ h3
      have ex := isKeyD_eq h4
      subst ex
      rw [keyD_rep r2]
      refine ⟨_, DGet.k e2, ?_⟩
      have k3 := ((k.tx t1).tx t2).tx t3
      cases ev : valD kvs2 kk with
      | none =>
        rw [ev] at h5
        rw [(rf.val kk).2 ev]
        exact k3.now rm3 r3 h5
      | some d =>
        rw [ev] at h5
        obtain ⟨x, g1, g2⟩ := (rf.val kk).1 d ev
        rw [g1]
        exact k3.now rm3 g2 h5
    · exact q1.elim
end
end DH

set_option Elab.async false
set_option linter.all false
set_option autoImplicit false
set_option maxRecDepth 100000
set_option maxHeartbeats 2000000
/-! Deep readings: tests, statements, targets, loops, comprehensions. -/
namespace DH
open PySem PySem.Spec PyProof.Rows L2
/-! ### tests -/
/-- a value's truth -/
def truM (x : D) (M : Mm) (q : Bool → Prop) : Prop := match x with
  | .bl b => q b
  | .non => q false
  | .int i => q (i != 0)
  | .str y => y.length ≤ sizeLine ∧ q ((y.length : Int) != 0)
  | .tup ds => q (!ds.isEmpty)
  | .ref a => (∃ ds, IsL M a ds ∧ q (!ds.isEmpty)) ∨ ∃ kvs, M a = some (.dk kvs) ∧ q (!kvs.isEmpty)
  | _ => False
def dtE (de : DE) : DT := fun E M Q => de E M fun d M1 => truM d M1 fun b => Q b M1
def dtB (de : DE) : DT := fun E M Q => de E M fun d M1 => match d with
  | .bl b => Q b M1
  | _ => False
def dtNot (t : DT) : DT := fun E M Q => t E M fun b M1 => Q (!b) M1
def dtAnd (t u : DT) : DT := fun E M Q => t E M fun b M1 => (b = true → u E M1 Q) ∧ (b = false → Q false M1)
def dtOr (t u : DT) : DT := fun E M Q => t E M fun b M1 => (b = true → Q true M1) ∧ (b = false → u E M1 Q)
def dNotV (de : DE) : DE := fun E M Q => de E M fun d M1 => match d with
  | .bl b => Q (.bl (!b)) M1
  | _ => False
def dAndV (da db : DE) : DE := fun E M Q => da E M fun d M1 => match d with
  | .bl b => (b = true → db E M1 Q) ∧ (b = false → Q (.bl false) M1)
  | _ => False
def dOrV (da db : DE) : DE := fun E M Q => da E M fun d M1 => match d with
  | .bl b => (b = true → Q (.bl true) M1) ∧ (b = false → db E M1 Q)
  | _ => False
def dChain (o o' : D2) (da db dc : DE) : DE := fun E M Q => da E M fun x M1 => db E M1 fun y M2 => o x y M2 fun z M3 => match z with
  | .bl b => (b = true → dc E M3 fun u M4 => o' y u M4 Q) ∧ (b = false → Q (.bl false) M3)
  | _ => False
section
variable {X : Cx} {a b c e : Expr} {da db dc de : DE} {t u : DT} {pos : Pos} {rest : List Expr}
theorem empty_len {α β : Type} {xs : List α} {ys : List β} (h : xs.length = ys.length) : xs.isEmpty = ys.isEmpty := by
  cases xs <;> cases ys <;> first | rfl | cases h
theorem tru_rep {K : PySem.W.Frag} {w : World} {H : Hp} {M : Mm} {x : D} {v : V} {q : Bool → Prop} (h : truM x M q) (rm : Rm K w H M) (r : Rep K w H x v) : ∃ k, TruV K v H k ∧ q k := by
  unfold truM at h
  split at h
  · rw [r.inv_bl]; exact ⟨_, rfl, h⟩
  · rw [r.inv_non]; exact ⟨_, rfl, h⟩
  · rw [r.inv_int]; exact ⟨_, rfl, h⟩
  · rw [r.inv_str]; exact ⟨_, ⟨h.1, rfl⟩, h.2⟩
  · obtain ⟨p, xs, rfl, sq, l⟩ := r.inv_tup
    exact ⟨_, .inr (.inl ⟨xs, sq, rfl⟩), by rw [empty_len l.length]; exact h⟩
  · rw [r.inv_ref]
    rcases h with ⟨ds, h1, h2⟩ | ⟨kvs, h1, h2⟩
    · obtain ⟨xs, sq, l⟩ := h1.sq rm
      exact ⟨_, .inl ⟨xs, sq, rfl⟩, by rw [empty_len l.length]; exact h2⟩
    · obtain ⟨gs, e, rf⟩ := rm _ _ h1
      exact ⟨_, .inr (.inr ⟨gs, e, rfl⟩), by rw [empty_len rf.length]; exact h2⟩
  · exact h.elim
theorem rt_val (h : RE X e de) (he : ∀ whole, isTrue e X.env whole = (do let v ← whole; standAt e.pos; holding [v] (truthy v)) := by intro _; rfl) : RT X e (dtE de) :=
  pt_imp (pt_truth h he) fun σ H Q ⟨E, M, Q', sl, rm, h, k⟩ => ⟨E, M, _, sl, rm, h, fun v H1 d M1 t1 rm1 r1 q1 => by
    obtain ⟨b, h1, h2⟩ := tru_rep q1 rm1 r1
    exact ⟨b, h1, k _ _ _ t1 rm1 h2⟩⟩
theorem rt_cmp {op : CmpOp} {r : R2} {o : D2} (ho : OpR X (compareOp op) r) (hr : R2R X.K X.w r o) (ha : RE X a da) (hb : RE X b db) (hm : behindInMarks op b = false) : RT X (.Compare a [op] [b] pos) (dtB (dOp o da db)) :=
  pt_imp (pt_cmpR ho ha hb hm) fun σ H Q ⟨E, M, Q', sl, rm, h, k⟩ => tD_op hr ⟨E, M, _, sl, rm, h, fun v H1 d M1 t1 rm1 r1 q1 => by
    split at q1
    · rename_i b; exact ⟨b, r1.inv_bl, k _ _ _ t1 rm1 q1⟩
    · exact q1.elim⟩
theorem tD_chain {K : PySem.W.Frag} {w : World} {r r' : R2} {o o' : D2} (hr : R2R K w r o) (hr' : R2R K w r' o') {σ : L2.St} {H : Hp} {Q : VK} (h : tD K w (dChain o o' da db dc) σ H Q) : tChain r r' (tD K w da) (tD K w db) (tD K w dc) σ H Q := by
  obtain ⟨E, M, Q', sl, rm, h, k⟩ := h
  refine ⟨E, M, _, sl, rm, h, fun v H1 d M1 t1 rm1 r1 q1 => ⟨E, M1, _, sl.mono t1, rm1, q1, fun v2 H2 d2 M2 t2 rm2 r2 q2 => ?_⟩⟩
  refine hr _ _ _ _ _ _ _ _ rm2 (r1.mono t2) r2 q2 fun v3 H3 d3 M3 t3 rm3 r3 q3 => ?_
  split at q3
  · rename_i b
    refine ⟨b, r3.inv_bl, ?_⟩
    have k3 := ((k.tx t1).tx t2).tx t3
    cases b with
    | true =>
      refine ⟨E, M3, _, ((sl.mono t1).mono t2).mono t3, rm3, q3.1 rfl, fun v4 H4 d4 M4 t4 rm4 r4 q4 => ?_⟩
      exact hr' _ _ _ _ _ _ _ _ rm4 ((r2.mono t3).mono t4) r4 q4 (k3.tx t4)
    | false => exact k3.now rm3 (.bl _) (q3.2 rfl)
  · exact q3.elim
theorem re_chain {op op' : CmpOp} {r r' : R2} {o o' : D2} (ho : OpR X (compareOp op) r) (hr : R2R X.K X.w r o) (ho' : OpR X (compareOp op') r') (hr' : R2R X.K X.w r' o') (ha : RE X a da) (hb : RE X b db) (hc : RE X c dc)
    (hm : lastMarks [op, op'] [b, c] = false := by with_unfolding_all rfl) : RE X (.Compare a [op, op'] [b, c] pos) (dChain o o' da db dc) := pe_imp (pe_chain ho ho' ha hb hc hm) fun σ H Q h => tD_chain hr hr' h
theorem rt_chain {op op' : CmpOp} {r r' : R2} {o o' : D2} (ho : OpR X (compareOp op) r) (hr : R2R X.K X.w r o) (ho' : OpR X (compareOp op') r') (hr' : R2R X.K X.w r' o') (ha : RE X a da) (hb : RE X b db) (hc : RE X c dc)
    (hm : lastMarks [op, op'] [b, c] = false := by with_unfolding_all rfl) : RT X (.Compare a [op, op'] [b, c] pos) (dtB (dChain o o' da db dc)) :=
  pt_imp (pt_chain ho ho' ha hb hc hm) fun σ H Q ⟨E, M, Q', sl, rm, h, k⟩ => tD_chain hr hr' ⟨E, M, _, sl, rm, h, fun v H1 d M1 t1 rm1 r1 q1 => by
    split at q1
    · rename_i b; exact ⟨b, r1.inv_bl, k _ _ _ t1 rm1 q1⟩
    · exact q1.elim⟩
theorem rt_not (h : RT X a t) : RT X (.UnaryOp .Not a pos) (dtNot t) := pt_imp (pt_not h) fun σ H Q ⟨E, M, Q', sl, rm, h, k⟩ => ⟨E, M, _, sl, rm, h, fun b H1 M1 t1 rm1 q1 => k _ _ _ t1 rm1 q1⟩
theorem rw_and1 (h : RT X a t) : RW X (.BoolOp .And [a] pos) t := pw_and1 h
theorem rw_or1 (h : RT X a t) : RW X (.BoolOp .Or [a] pos) t := pw_or1 h
theorem rw_and (ha : RT X a t) (hb : RW X (.BoolOp .And (b :: rest) pos) u) : RW X (.BoolOp .And (a :: b :: rest) pos) (dtAnd t u) := pw_imp (pw_and ha hb) fun σ H Q ⟨E, M, Q', sl, rm, h, k⟩ =>
  ⟨E, M, _, sl, rm, h, fun b H1 M1 t1 rm1 q1 => by
    cases b with
    | true => exact ⟨E, M1, _, sl.mono t1, rm1, q1.1 rfl, fun b H2 M2 t2 rm2 q2 => k _ _ _ (t1.trans t2) rm2 q2⟩
    | false => exact k _ _ _ t1 rm1 (q1.2 rfl)⟩
theorem rw_or (ha : RT X a t) (hb : RW X (.BoolOp .Or (b :: rest) pos) u) : RW X (.BoolOp .Or (a :: b :: rest) pos) (dtOr t u) := pw_imp (pw_or ha hb) fun σ H Q ⟨E, M, Q', sl, rm, h, k⟩ =>
  ⟨E, M, _, sl, rm, h, fun b H1 M1 t1 rm1 q1 => by
    cases b with
    | false => exact ⟨E, M1, _, sl.mono t1, rm1, q1.2 rfl, fun b H2 M2 t2 rm2 q2 => k _ _ _ (t1.trans t2) rm2 q2⟩
    | true => exact k _ _ _ t1 rm1 (q1.1 rfl)⟩
theorem re_one {op} (h : RE X a da) : RE X (.BoolOp op [a] pos) da := pe_one h
theorem re_not (h : RE X a da) : RE X (.UnaryOp .Not a pos) (dNotV da) := pe_imp (pe_not h) fun σ H Q ⟨E, M, Q', sl, rm, h, k⟩ => ⟨E, M, _, sl, rm, h, fun v H1 d M1 t1 rm1 r1 q1 => by
  split at q1
  · rename_i b; exact ⟨b, r1.inv_bl, (k.tx t1).now rm1 (.bl _) q1⟩
  · exact q1.elim⟩
theorem re_and (ha : RE X a da) (hb : RE X (.BoolOp .And (b :: rest) pos) db) : RE X (.BoolOp .And (a :: b :: rest) pos) (dAndV da db) := pe_imp (pe_and ha hb) fun σ H Q ⟨E, M, Q', sl, rm, h, k⟩ => ⟨E, M, _, sl, rm, h, fun v H1 d M1 t1 rm1 r1 q1 => by
  split at q1
  · rename_i b
    refine ⟨b, r1.inv_bl, ?_⟩
    cases b with
    | true => exact ⟨E, M1, _, sl.mono t1, rm1, q1.1 rfl, k.tx t1⟩
    | false => exact (k.tx t1).now rm1 (.bl _) (q1.2 rfl)
  · exact q1.elim⟩
theorem re_or (ha : RE X a da) (hb : RE X (.BoolOp .Or (b :: rest) pos) db) : RE X (.BoolOp .Or (a :: b :: rest) pos) (dOrV da db) := pe_imp (pe_or ha hb) fun σ H Q ⟨E, M, Q', sl, rm, h, k⟩ => ⟨E, M, _, sl, rm, h, fun v H1 d M1 t1 rm1 r1 q1 => by
  split at q1
  · rename_i b
    refine ⟨b, r1.inv_bl, ?_⟩
    cases b with
    | false => exact ⟨E, M1, _, sl.mono t1, rm1, q1.2 rfl, k.tx t1⟩
    | true => exact (k.tx t1).now rm1 (.bl _) (q1.1 rfl)
  · exact q1.elim⟩
end

/-! ### statements -/
def dNext : DS := fun D E M => D.nx E M
def dSeq (t u : DS) : DS := fun D E M => t { D with nx := u D } E M
def dDrop (de : DE) : DS := fun D E M => de E M fun _ M1 => D.nx E M1
def dRet (de : DE) : DS := fun D E M => de E M D.rt
def dIf (t : DT) (a b : DS) : DS := fun D E M => t E M fun c M1 => (c = true → a D E M1) ∧ (c = false → b D E M1)
section
variable {X : Cx} {st : Stmt} {rest : List Stmt} {t u : DS} {e : Expr} {de : DE} {pos : Pos}
theorem rss_nil : RSs X [] dNext := fun W tk => pss_imp pss_nil fun D σ H ⟨E, M, D', sl, rm, h, k⟩ => k.nx _ _ _ _ (Tx.refl H) sl rm h
theorem rss_cons (h1 : RS X st t) (h2 : RSs X rest u) : RSs X (st :: rest) (dSeq t u) := fun W tk => pss_imp (pss_cons (h1 W tk) (h2 W tk)) fun D σ H ⟨E, M, D', sl, rm, h, k⟩ =>
  ⟨E, M, _, sl, rm, h, ⟨fun σ' H' E' M' t sl' rm' q => ⟨E', M', D', sl', rm', q, k.tx t⟩, k.rt, k.bk, k.ct, k.xc⟩⟩
theorem rss_one (h1 : RS X st t) : RSs X [st] t := fun W tk => pss_one (h1 W tk)
theorem rs_expr (he : RE X e de) (hs : swapsWith e none pos.line X.env = pure false := by rfl) : RS X (.Expr e pos) (dDrop de) := fun W tk => ps_imp (ps_expr he hs) fun D σ H ⟨E, M, D', sl, rm, h, k⟩ =>
  ⟨E, M, _, sl, rm, h, fun v H1 d M1 t1 rm1 r1 q1 => k.nx _ _ _ _ t1 (sl.mono t1) rm1 q1⟩
theorem rs_ret (he : RE X e de) : RS X (.Return (some e) pos) (dRet de) := fun W tk => ps_imp (ps_ret he) fun D σ H ⟨E, M, D', sl, rm, h, k⟩ => ⟨E, M, _, sl, rm, h, k.rt⟩
theorem rs_if {c : Expr} {a b : List Stmt} {tc : DT} (hc : RT X c tc) (ha : RSs X a t) (hb : RSs X b u) : RS X (.If c a b pos) (dIf tc t u) := fun W tk => ps_imp (ps_if hc (ha W tk) (hb W tk)) fun D σ H ⟨E, M, D', sl, rm, h, k⟩ =>
  ⟨E, M, _, sl, rm, h, fun v H1 M1 t1 rm1 q1 => by
    cases v with
    | true => exact ⟨E, M1, D', sl.mono t1, rm1, q1.1 rfl, k.tx t1⟩
    | false => exact ⟨E, M1, D', sl.mono t1, rm1, q1.2 rfl, k.tx t1⟩⟩
end

/-! ### targets: a name, a row of names -/
inductive Tg where
  | nm (i : Nat) | tp (is : List Nat) | nt (i : Nat) (is : List Nat)
def setE (E : DEnv) : List Nat → List D → DEnv
  | i :: is, d :: ds => setE (E.set i (some d)) is ds
  | _, _ => E
def setσ (σ : L2.St) : List Nat → List V → L2.St
  | i :: is, d :: ds => setσ (σ.set i (some d)) is ds
  | _, _ => σ
def Tg.ls : Tg → List Nat
  | .nm i => [i]
  | .tp is => is
  | .nt i is => i :: is
def dTg (g : Tg) (d : D) (E : DEnv) (Q : DEnv → Prop) : Prop := match g, d with
  | .nm i, d => Q (E.set i (some d))
  | .tp is, .tup ds => ds.length = is.length ∧ Q (setE E is ds)
  | .nt i is, .tup [d, .tup ds] => ds.length = is.length ∧ Q (setE (E.set i (some d)) is ds)
  | _, _ => False
/-- a target's rule above the heap, and what it tells of the slots -/
structure PTg (X : Cx) (target : Expr) (g : Tg) (tg : TG) : Prop where
  pg : PG X target tg
  to : ∀ (d : D) (E : DEnv) (Q : DEnv → Prop) (v : V) (σ : L2.St) (H : Hp) (P : L2.St → Hp → Prop), dTg g d E Q → Sl X.K X.w H σ E → Rep X.K X.w H d v → (∀ E' xs, Sl X.K X.w H (setσ σ g.ls xs) E' → Q E' → P (setσ σ g.ls xs) H) → tg v σ H P
def gNames : List Nat → TGs
  | [] => gNil
  | i :: is => gCons (gName i) (gNames is)
theorem gNames_to {H : Hp} {P : L2.St → Hp → Prop} : ∀ {is : List Nat} {xs : List V} {σ : L2.St}, xs.length = is.length → P (setσ σ is xs) H → gNames is xs σ H P
  | [], [], _, _, h => ⟨rfl, h⟩
  | [], _ :: _, _, e, _ => by cases e
  | _ :: _, [], _, e, _ => by cases e
  | i :: is, x :: xs, σ, e, h => ⟨x, xs, rfl, gNames_to (is := is) (xs := xs) (σ := σ.set i (some x)) (by simpa using e) h⟩
theorem Sl.sets {K : PySem.W.Frag} {w : World} {H : Hp} : ∀ {is : List Nat} {ds : List D} {xs : List V} {σ : L2.St} {E : DEnv}, RepL K w H ds xs → Sl K w H σ E → Sl K w H (setσ σ is xs) (setE E is ds)
  | [], _, _, _, _, _, s => by
    cases ‹RepL K w H _ _› <;> exact s
  | i :: is, _, _, _, _, .nil, s => s
  | i :: is, _, _, _, _, .cons r l, s => Sl.sets (is := is) l (s.set r i)
section
variable {X : Cx} {pos : Pos}
theorem ptg_name {i : Nat} {x : Str} (h : PG X (.Name x pos) (gName i)) : PTg X (.Name x pos) (.nm i) (gName i) := ⟨h, fun d E Q v σ H P h sl r k => k _ [v] (sl.set r i) h⟩
theorem ptg_tup {es : List Expr} {kk : Nat} {is : List Nat} (hc : X.calm = true) (h : PGs X es (gNames is)) (hl : es.length = is.length)
    (hn : (assignEach es X.env).length = is.length := by rfl) (hst : (assignEach es X.env).findIdx? (·.1) = none := by rfl) : PTg X (.Tuple es kk pos) (.tp is) (gTup X.K is.length (gNames is)) :=
  ⟨pg_tup hc h hn hst, fun d E Q v σ H P h sl r k => by
    cases d with
    | tup ds =>
      have h : ds.length = is.length ∧ Q (setE E is ds) := h
      obtain ⟨a, xs, rfl, sq, l⟩ := r.inv_tup
      exact ⟨a, xs, rfl, sq, l.length.trans h.1, gNames_to (l.length.trans h.1) (k _ xs (Sl.sets l sl) h.2)⟩
    | _ => exact False.elim h⟩
end
def dAsg (de : DE) (g : Tg) : DS := fun D E M => de E M fun d M1 => dTg g d E fun E' => D.nx E' M1
section
variable {X : Cx} {pos : Pos} {e : Expr} {de : DE}
theorem asg_to {g : Tg} {target : Expr} {tg : TG} (p : PTg X target g tg) {W : WX} {D : Ends} {σ : L2.St} {H : Hp} (h : tsD X.K X.w W (dAsg de g) D σ H) : tAsg (tD X.K X.w de) tg D σ H := by
  obtain ⟨E, M, D', sl, rm, h, k⟩ := h
  exact ⟨E, M, _, sl, rm, h, fun v H1 d M1 t1 rm1 r1 q1 => p.to d E _ v σ H1 _ q1 (sl.mono t1) r1 fun E' xs sl' q => k.nx _ _ _ _ t1 sl' rm1 q⟩
theorem rs_set {i : Nat} {x : Str} {pos' : Pos} (hN : X.N.Nodup) (hi : X.N[i]? = some x) (hx : Loc X.env.scope x) (he : RE X e de) (hs : swapsWith e (some (.Name x pos')) pos.line X.env = pure false := by rfl) (hf : X.fn x = true ∨ X.env.scope.names.lookup x = some .local := by first | exact .inl rfl | exact .inr rfl | assumption) :
    RS X (.Assign [.Name x pos'] e pos) (dAsg de (.nm i)) := fun W tk => ps_imp (ps_set hN hi hx he hs hf) fun D σ H h => asg_to (ptg_name (pos := pos') (pg_name hN hi hx hf)) h
theorem rs_asg {target : Expr} {g : Tg} {tg : TG} (he : RE X e de) (p : PTg X target g tg) (hs : swapsWithSole [target] e pos.line X.env = pure false := by rfl) (hw : swappedStores [target] e X.env = pure none := by rfl)
    (h1 : (assignEach [target] X.env).map (·.2) = [assign target X.env] := by rfl) : RS X (.Assign [target] e pos) (dAsg de g) := fun W tk => ps_imp (ps_asg he p.pg hs hw h1) fun D σ H h => asg_to p h
end
/-- o[i] = v -/
def dSetIx (dv do_ di : DE) : DS := fun D E M => dv E M fun v M1 => do_ E M1 fun o M2 => di E M2 fun i M3 => match o with
  | .ref a => (∃ ds k j, M3 a = some (.lst ds) ∧ i = .int k ∧ ixN ds.length k = some j ∧ D.nx E (updM M3 a (.lst (ds.set j v)))) ∨ ∃ kvs k, M3 a = some (.dk kvs) ∧ isKeyD i = some k ∧ kvs.length < sizeLine ∧ D.nx E (updM M3 a (.dk (putD kvs k v)))
  | _ => False
section
variable {X : Cx} {o i v : Expr} {do_ di dv : DE} {pos pos' : Pos}
/-- the store by values: a list or a dict -/
def rSetA : TSet := fun o i v H Q => rSetL o i v H Q ∨ ∃ a H', o = .ref a ∧ DPut H a i v H' ∧ Q H'
theorem set_all (hu : X.A.units + 1 < cLine) : PSet X rSetA := fun pins s σ H o i v ov iv u Q I ro ri rv h => by
  rcases h with h | ⟨a, H', rfl, h, q⟩
  · exact set_list pins s σ H o i v ov iv u Q I ro ri rv h
  · cases (show ov = Value.ref a from ro)
    exact d_setItem hu I h ri rv fun s' I' => ⟨H', I', q⟩
theorem rs_setIx (hu : X.A.units + 1 < cLine) (ho : RE X o do_) (hi : RE X i di) (hv : RE X v dv)
    (ha : ∀ u, assign (.Subscript o i pos') X.env u = (do
      let ov ← holding [u] (eval o X.env)
      let iv ← holding [u, ov] (eval i X.env)
      standAt pos'
      holding [u, ov, iv] (setItem ov iv u)
      release [u, ov, iv] []) := by intro _; rfl)
    (hs : swapsWithSole [.Subscript o i pos'] v pos.line X.env = pure false := by rfl) (hw : swappedStores [.Subscript o i pos'] v X.env = pure none := by rfl)
    (h1 : (assignEach [.Subscript o i pos'] X.env).map (·.2) = [assign (.Subscript o i pos') X.env] := by rfl) : RS X (.Assign [.Subscript o i pos'] v pos) (dSetIx dv do_ di) :=
  fun W tk => ps_imp (ps_asg hv (pg_sub ho hi (set_all hu) ha) hs hw h1) fun D σ H ⟨E, M, D', sl, rm, h, k⟩ => by
    refine ⟨E, M, _, sl, rm, h, fun x H1 d M1 t1 rm1 r1 q1 => ⟨E, M1, _, sl.mono t1, rm1, q1, fun y H2 d2 M2 t2 rm2 r2 q2 => ⟨E, M2, _, (sl.mono t1).mono t2, rm2, q2, fun z H3 d3 M3 t3 rm3 r3 q3 => ?_⟩⟩⟩
    split at q3
    · rename_i a
      have t123 := t1.trans (t2.trans t3)
      rw [(r2.mono t3).inv_ref]
      rcases q3 with ⟨ds, kk, j, h1, h2, h3, h4⟩ | ⟨kvs, kk, h1, h2, h3, h4⟩
      · obtain ⟨xs, e, l⟩ := rm3 _ _ h1
        subst h2
        have tm : Tx X.K H3 (upd H3 a (.lst (xs.set j x))) := Tx.mut e trivial
        refine .inl ⟨a, xs, kk, j, rfl, r3.inv_int, e, by rw [l.length]; exact h3, ?_⟩
        exact k.nx _ _ _ _ (t123.trans tm) (((((sl.mono t1).mono t2).mono t3)).mono tm) (rm3.upd (mo := .lst (ds.set j d)) tm ⟨_, upd_same, (RepL.set ((r1.mono t2).mono t3) j l).mono tm⟩) h4
      · obtain ⟨gs, e, rf⟩ := rm3 _ _ h1
        have ex := isKeyD_eq h2
        subst ex
        rw [keyD_rep r3]
        have tm : Tx X.K H3 (upd H3 a (.dK (putK gs kk x))) := Tx.mut e trivial
        refine .inr ⟨a, _, rfl, DPut.k e (by rw [rf.length]; exact h3), ?_⟩
        exact k.nx _ _ _ _ (t123.trans tm) (((((sl.mono t1).mono t2).mono t3)).mono tm) (rm3.upd (mo := .dk (putD kvs kk d)) tm ⟨_, upd_same, (rf.put kk ((r1.mono t2).mono t3)).mono tm⟩) h4
    · exact q3.elim
end
/-- x += e, ints -/
def dAugAdd (i : Nat) (de : DE) : DS := fun D E M => dVar i E M fun x _ => de E M fun y M1 => match x, y with
  | .int a, .int b => D.nx (E.set i (some (.int (a + b)))) M1
  | _, _ => False
theorem rs_augAdd {X : Cx} {i : Nat} {x : Str} {e : Expr} {de : DE} {pos pos' : Pos} (hN : X.N.Nodup) (hi : X.N[i]? = some x) (hx : Loc X.env.scope x) (he : RE X e de) (hf : X.fn x = true ∨ X.env.scope.names.lookup x = some .local := by first | exact .inl rfl | exact .inr rfl | assumption) :
    RS X (.AugAssign (.Name x pos') .Add e pos) (dAugAdd i de) := fun W tk => ps_imp (ps_aug hN hi hx he ip_add hf) fun D σ H ⟨E, M, D', sl, rm, h, k⟩ => by
  unfold dAugAdd dVar at h
  split at h
  · rename_i d q
    obtain ⟨v, e1, r⟩ := sl.at_ i d q
    refine ⟨v, e1, E, M, _, sl, rm, h, fun y H1 d1 M1 t1 rm1 r1 q1 => ?_⟩
    split at q1
    · exact ⟨_, _, r.inv_int, r1.inv_int, k.nx _ _ _ _ t1 ((sl.mono t1).set (.int _) i) rm1 q1⟩
    · exact q1.elim
  · exact h.elim
end DH

set_option Elab.async false
set_option linter.all false
set_option autoImplicit false
set_option maxRecDepth 100000
set_option maxHeartbeats 2000000
/-! Deep readings: what is walked, for, comprehensions, dict displays. -/
namespace DH
open PySem PySem.Spec PyProof.Rows L2
abbrev DI := DEnv → Mm → (List D → (Mm → Prop) → Mm → Prop) → Prop
/-- an iterator above the heap H0 that yields ds while stay -/
def ItOk (K : PySem.W.Frag) (w : World) (H0 : Hp) (J : It) (ds : List D) (stay : Mm → Prop) : Prop := ∀ (i : Nat) (H : Hp) (M : Mm), Tx K H0 H → Rm K w H M → stay M →
  (∀ d, ds[i]? = some d → J.go i H ∧ ∀ x H', J.yld i H x H' → Tx K H H' ∧ Rm K w H' M ∧ Rep K w H' d x) ∧ (i = ds.length → J.stop i H)
def tiD (K : PySem.W.Frag) (w : World) (di : DI) : TI := fun σ H R => ∃ E M Q', Sl K w H σ E ∧ Rm K w H M ∧ di E M Q' ∧ ∀ J H' ds stay M', Tx K H H' → Rm K w H' M' → ItOk K w H' J ds stay → Q' ds stay M' → R J H'
abbrev RI (X : Cx) (tg iter : Expr) (di : DI) : Prop := PI X tg iter (tiD X.K X.w di)
section
variable {K : PySem.W.Frag} {w : World} {H : Hp}
theorem it_list {a : Addr} {ds : List D} : ItOk K w H (Itl K a) ds (fun M => IsL M a ds) := fun i H' M t rm st => by
  obtain ⟨xs, sq, l⟩ := st.sq rm
  refine ⟨fun d e => ?_, fun e => ⟨xs, sq, by rw [l.length, e]; exact Nat.le_refl _⟩⟩
  obtain ⟨x, e1, r⟩ := l.get e
  refine ⟨⟨xs, x, sq, e1⟩, fun y H2 h => ?_⟩
  obtain ⟨rfl, h⟩ := h
  have q := h xs sq
  rw [e1] at q; cases q
  exact ⟨Tx.refl _, rm, r⟩
theorem it_tup {a : Addr} {ds : List D} {xs : List V} (sq : SqT K H a xs) (l : RepL K w H ds xs) : ItOk K w H (Itt K a) ds (fun _ => True) := fun i H' M t rm st => by
  refine ⟨fun d e => ?_, fun e => ⟨xs, t.t _ _ sq, by rw [l.length, e]; exact Nat.le_refl _⟩⟩
  obtain ⟨x, e1, r⟩ := l.get e
  refine ⟨⟨xs, x, t.t _ _ sq, e1⟩, fun y H2 h => ?_⟩
  obtain ⟨rfl, h⟩ := h
  have q := h xs (t.t _ _ sq)
  rw [e1] at q; cases q
  exact ⟨Tx.refl _, rm, r.mono t⟩
def strD (z : Str) : List D := z.cps.toList.map fun c => .str ⟨#[c]⟩
theorem it_str {z : Str} : ItOk K w H (Its z) (strD z) (fun _ => True) := fun i H' M t rm st => by
  unfold strD
  refine ⟨fun d e => ?_, fun e => ?_⟩
  · rw [List.getElem?_map] at e
    obtain ⟨c, e1, e2⟩ := Option.map_eq_some_iff.mp e
    subst e2
    have hi := (List.getElem?_eq_some_iff.mp e1).1
    refine ⟨(by simpa using hi : i < z.cps.size), fun y H2 h => ?_⟩
    obtain ⟨rfl, c', e3, rfl⟩ := h
    have e4 : z.cps.toList[i]? = some c' := by simpa using e3
    rw [e1] at e4; cases e4
    exact ⟨Tx.refl _, rm, .str _⟩
  · show z.cps.size ≤ i
    rw [e, List.length_map]; simp
def rngD (lo : Int) (n : Nat) : List D := (List.range n).map fun i => .int (lo + (i : Nat))
theorem it_rng {lo : Int} {n : Nat} : ItOk K w H (Itr lo n) (rngD lo n) (fun _ => True) := fun i H' M t rm st => by
  unfold rngD
  refine ⟨fun d e => ?_, fun e => ?_⟩
  · rw [List.getElem?_map] at e
    obtain ⟨c, e1, e2⟩ := Option.map_eq_some_iff.mp e
    subst e2
    have hi := (List.getElem?_eq_some_iff.mp e1).1
    rw [List.length_range] at hi
    rw [List.getElem?_range hi] at e1; cases e1
    refine ⟨hi, fun y H2 h => ?_⟩
    obtain ⟨rfl, rfl⟩ := h
    exact ⟨Tx.refl _, rm, .int _⟩
  · show n ≤ i
    rw [e, List.length_map, List.length_range]; exact Nat.le_refl _
end
/-- the walk over a value -/
def dIter (de : DE) : DI := fun E M Q => de E M fun d M1 => match d with
  | .tup ds => Q ds (fun _ => True) M1
  | .str z => Q (strD z) (fun _ => True) M1
  | .ref a => ∃ ds, IsL M1 a ds ∧ Q ds (fun M => IsL M a ds) M1
  | _ => False
def dRng1 (da : DA) : DI := fun E M Q => da E M fun ds M1 => match ds with
  | [.int j] => -(2 ^ 62) ≤ j ∧ j < 2 ^ 62 ∧ Q (rngD 0 j.toNat) (fun _ => True) M1
  | _ => False
def dRng2 (da : DA) : DI := fun E M Q => da E M fun ds M1 => match ds with
  | [.int i, .int j] => (-(2 ^ 62) ≤ i ∧ i < 2 ^ 62 ∧ -(2 ^ 62) ≤ j ∧ j < 2 ^ 62) ∧ Q (rngD i (j - i).toNat) (fun _ => True) M1
  | _ => False
section
variable {X : Cx} {tg e : Expr} {de : DE} {p pos : Pos}
/-- what a value is walked by -/
def itV (K : PySem.W.Frag) (v : V) (H : Hp) (R : It → Hp → Prop) : Prop :=
  (∃ a xs, v = .ref a ∧ SqT K H a xs ∧ R (Itt K a) H) ∨ (∃ x, v = .str x ∧ R (Its x) H) ∨ ∃ a xs, v = .ref a ∧ SqL K H a xs ∧ R (Itl K a) H
def iVal (K : PySem.W.Frag) (te : TE) : TI := fun σ H R => te σ H fun v H1 => itV K v H1 R
theorem pi_val {te : TE} (he : PE X e te) : PI X tg e (iVal X.K te) := by
  refine ⟨fun pins s σ H R I h => ?_⟩
  refine thn (he.run pins s σ H _ I h) fun v s1 ⟨y, H1, I1, r1, q⟩ => ?_
  rcases q with ⟨a, xs, rfl, sq, q⟩ | ⟨x, rfl, q⟩ | ⟨a, xs, rfl, sq, q⟩
  · cases r1
    obtain ⟨its, rv, pt, hz⟩ := I1.tuple sq
    exact wpAny_pyIter_tuple (show s1.heap.IsTuple a its.toArray from pt) (pi_one (tk := s1.toks) I1 _ (turn_tuple a _) ⟨_, Heap.get?_push_size _ rfl, rfl, rfl⟩ q)
  · obtain ⟨t, rfl⟩ := r1
    cases ha : x.cps.all (· < 128) with
    | false => exact wpAny_pyIter_wide ha (pi_one (tk := s1.toks) I1 _ (turn_str _ x t "str_iterator" (.inr rfl)) ⟨_, Heap.get?_push_size _ rfl, rfl, rfl⟩ q)
    | true => exact wpAny_pyIter_ascii ha (pi_one (tk := s1.toks) I1 _ (turn_str _ x t "str_ascii_iterator" (.inl rfl)) ⟨_, Heap.get?_push_size _ rfl, rfl, rfl⟩ q)
  · cases r1
    obtain ⟨its, rv, pt, hz⟩ := I1.list sq
    exact wpAny_pyIter_list pt.isList (pi_one (tk := s1.toks) I1 _ (turn_list a _) ⟨_, Heap.get?_push_size _ rfl, rfl, rfl⟩ q)
theorem ri_val (he : RE X e de) : RI X tg e (dIter de) := pi_imp (pi_val he) fun σ H R ⟨E, M, Q', sl, rm, h, k⟩ =>
  ⟨E, M, _, sl, rm, h, fun v H' d M' t rm' r q => by
    split at q
    · obtain ⟨a, xs, rfl, sq, l⟩ := r.inv_tup
      exact .inl ⟨a, xs, rfl, sq, k _ _ _ _ _ t rm' (it_tup sq l) q⟩
    · exact .inr (.inl ⟨_, r.inv_str, k _ _ _ _ _ t rm' it_str q⟩)
    · obtain ⟨ds, h1, h2⟩ := q
      obtain ⟨xs, sq, l⟩ := h1.sq rm'
      exact .inr (.inr ⟨_, xs, r.inv_ref, sq, k _ _ _ _ _ t rm' it_list h2⟩)
    · exact q.elim⟩
theorem ri_rng1 {a : Expr} {da : DA} (hg : Gl X "range") (hm : X.mg "range" = none) (ha : RA X [a] da) (hs : starEach [a] X.env = [(false, eval a X.env)] := by rfl) : RI X tg (.Call (.Name "range" p) [a] [] pos) (dRng1 da) :=
  pi_imp (pi_range1 hg hm ha hs) fun σ H R ⟨E, M, Q', sl, rm, h, k⟩ => ⟨E, M, _, sl, rm, h, fun vs H' ds M' t rm' r q => by
    split at q
    · obtain ⟨v, rfl, rr⟩ := r.inv1
      rw [rr.inv_int]
      exact ⟨_, rfl, q.1, q.2.1, k _ _ _ _ _ t rm' it_rng q.2.2⟩
    · exact q.elim⟩
theorem ri_rng2 {a b : Expr} {da : DA} (hg : Gl X "range") (hm : X.mg "range" = none) (ha : RA X [a, b] da) (hs : starEach [a, b] X.env = [(false, eval a X.env), (false, eval b X.env)] := by rfl) (hs2 : starEach [b] X.env = [(false, eval b X.env)] := by rfl) : RI X tg (.Call (.Name "range" p) [a, b] [] pos) (dRng2 da) :=
  pi_imp (pi_range2 hg hm ha hs hs2) fun σ H R ⟨E, M, Q', sl, rm, h, k⟩ => ⟨E, M, _, sl, rm, h, fun vs H' ds M' t rm' r q => by
    split at q
    · obtain ⟨v, u, rfl, rr, r2⟩ := r.inv2
      rw [rr.inv_int, r2.inv_int]
      exact ⟨_, _, rfl, q.1, k _ _ _ _ _ t rm' it_rng q.2⟩
    · exact q.elim⟩
end

/-! ### for -/
def dFor (di : DI) (g : Tg) (db : DS) : DS := fun D E M => di E M fun ds stay M1 => ∃ I : Nat → DEnv → Mm → Prop, I 0 E M1 ∧ (∀ i E M, I i E M → stay M) ∧
  (∀ i E M d, ds[i]? = some d → I i E M → dTg g d E fun E2 => db { nx := I (i + 1), rt := D.rt, bk := D.nx, ct := I (i + 1), xc := D.xc } E2 M) ∧ ∀ E M, I ds.length E M → D.nx E M
theorem rs_for {X : Cx} {target iter : Expr} {body : List Stmt} {di : DI} {g : Tg} {tg : TG} {db : DS} {pos : Pos} (hp : PassesOwn (model X.prog X.w) X.A X.env X.xe) (hc : X.calm = true) (hi : RI X target iter di) (hg : PTg X target g tg) (hb : RSs X body db)
    (hs : ∀ x, foldedSetIterable iter X.env x = pure x := by intro _; rfl) : RS X (.For target iter body [] pos) (dFor di g db) :=
  fun W tk => ps_imp (ps_for hp hc hi hg.pg (hb W tk) hs) fun D σ H ⟨E, M, D', sl, rm, h, k⟩ => by
    refine ⟨E, M, _, sl, rm, h, fun J H1 ds stay M1 t1 rm1 ok q => ?_⟩
    obtain ⟨I, i0, ist, turn, fin⟩ := q
    refine ⟨fun i m σ' H' => ∃ E' M', m = ds.length - i ∧ i ≤ ds.length ∧ Tx X.K H1 H' ∧ Sl X.K X.w H' σ' E' ∧ Rm X.K X.w H' M' ∧ I i E' M', ⟨_, E, M1, rfl, Nat.zero_le _, Tx.refl _, sl.mono t1, rm1, i0⟩, ?_⟩
    rintro i m σ' H' ⟨E', M', rfl, hi, t', sl', rm', iv⟩
    have it := ok i H' M' t' rm' (ist i E' M' iv)
    by_cases hlt : i < ds.length
    · obtain ⟨go, yl⟩ := it.1 ds[i] (List.getElem?_eq_getElem hlt)
      refine .inr ⟨go, fun σ2 H2 => ∃ E2 M2, Tx X.K H1 H2 ∧ Sl X.K X.w H2 σ2 E2 ∧ Rm X.K X.w H2 M2 ∧ I (i + 1) E2 M2, fun σ2 H2 ⟨E2, M2, a, b, c, d⟩ => ⟨ds.length - (i + 1), by omega, E2, M2, rfl, hlt, a, b, c, d⟩, fun x H2 y => ?_⟩
      obtain ⟨t2, rm2, r2⟩ := yl x H2 y
      refine hg.to ds[i] E' _ x σ' H2 _ (turn i E' M' _ (List.getElem?_eq_getElem hlt) iv) (sl'.mono t2) r2 fun E3 xs sl3 q3 => ?_
      have tt : Tx X.K H1 H2 := t'.trans t2
      exact ⟨E3, M', _, sl3, rm2, q3, ⟨fun σ4 H4 E4 M4 t4 sl4 rm4 q4 => ⟨E4, M4, tt.trans t4, sl4, rm4, q4⟩, fun v H4 d M4 t4 rm4 r4 q4 => k.rt _ _ _ _ (t1.trans (tt.trans t4)) rm4 r4 q4, fun σ4 H4 E4 M4 t4 sl4 rm4 q4 => k.nx _ _ _ _ (t1.trans (tt.trans t4)) sl4 rm4 q4, fun σ4 H4 E4 M4 t4 sl4 rm4 q4 => ⟨E4, M4, tt.trans t4, sl4, rm4, q4⟩, fun cls d σ4 H4 E4 M4 t4 sl4 rm4 q4 => k.xc _ _ _ _ _ _ (t1.trans (tt.trans t4)) sl4 rm4 q4⟩⟩
    · have e : i = ds.length := by omega
      exact .inl ⟨it.2 e, k.nx _ _ _ _ (t1.trans t') sl' rm' (fin E' M' (by rw [← e]; exact iv))⟩

/-! ### while -/
/-! ### comprehensions -/
theorem wipe_put {i : Nat} {o : Option V} : ∀ {vs : List Nat} {σ : L2.St}, i ∉ vs → wipe (σ.set i o) vs = (wipe σ vs).set i o
  | [], _, _ => rfl
  | v :: vs, σ, h => by
    have h1 : i ≠ v := fun e => h (List.mem_cons.mpr (.inl e))
    have h2 : i ∉ vs := fun e => h (List.mem_cons.mpr (.inr e))
    show (wipe (σ.set i o) vs).set v none = ((wipe σ vs).set v none).set i o
    rw [wipe_put h2, List.set_comm _ _ h1]
theorem wipe_set {i : Nat} {o : Option V} : ∀ {vs : List Nat} {σ : L2.St}, i ∈ vs → wipe (σ.set i o) vs = wipe σ vs
  | [], _, h => by cases h
  | v :: vs, σ, h => by
    show (wipe (σ.set i o) vs).set v none = (wipe σ vs).set v none
    by_cases e : i ∈ vs
    · rw [wipe_set e]
    · have hv : v = i := by
        rcases List.mem_cons.mp h with q | q
        · exact q.symm
        · exact absurd q e
      subst hv
      rw [wipe_put e, List.set_set]
theorem wipe_idem {vs : List Nat} {σ : L2.St} : ∀ {ws : List Nat}, (∀ i ∈ ws, i ∈ vs) → wipe (wipe σ ws) vs = wipe σ vs
  | [], _ => rfl
  | v :: ws, h => by
    show wipe ((wipe σ ws).set v none) vs = wipe σ vs
    rw [wipe_set (h v List.mem_cons_self), wipe_idem fun i hi => h i (List.mem_cons_of_mem _ hi)]
theorem wipe_sets {vs : List Nat} : ∀ {is : List Nat} {xs : List V} {σ : L2.St}, (∀ i ∈ is, i ∈ vs) → wipe (setσ σ is xs) vs = wipe σ vs
  | [], _, _, _ => rfl
  | _ :: _, [], _, _ => rfl
  | i :: is, x :: xs, σ, h => by
    show wipe (setσ (σ.set i (some x)) is xs) vs = wipe σ vs
    rw [wipe_sets fun j hj => h j (List.mem_cons_of_mem _ hj), wipe_set (h i List.mem_cons_self)]
def dYes : DT := fun _ M Q => Q true M
def dLc (di : DI) (g : Tg) (t : DT) (de : DE) (vs : List Nat) : DE := fun E M Q => di E M fun ds stay M1 => ∀ p, M1 p = none → ∃ I : Nat → List D → Mm → Prop, I 0 [] (updM M1 p (.lst [])) ∧ (∀ i acc M, I i acc M → stay M) ∧
  (∀ i acc M d, ds[i]? = some d → I i acc M → dTg g d (wipeD E vs) fun E2 => t E2 M fun b M3 => (b = true → de E2 M3 fun y M4 => M4 p = some (.lst acc) ∧ acc.length < sizeLine ∧ I (i + 1) (acc ++ [y]) (updM M4 p (.lst (acc ++ [y])))) ∧ (b = false → I (i + 1) acc M3)) ∧
  ∀ acc M, I ds.length acc M → Q (.ref p) M
/-- the test of a comprehension's clause -/
structure RTs (X : Cx) (ifs : List Expr) (t : DT) : Prop where
  pt : PTs X ifs (ttD X.K X.w t)
theorem rts_nil {X : Cx} : RTs X [] dYes := ⟨⟨fun pins s σ H Q I ⟨E, M, Q', sl, rm, h, k⟩ => pts_nil.run pins s σ H Q I (k _ _ _ (Tx.refl _) rm h)⟩⟩
theorem rts_one {X : Cx} {c : Expr} {t : DT} (h : RT X c t) : RTs X [c] t := ⟨pts_one h⟩
theorem lc_to {K : PySem.W.Frag} {w : World} {di : DI} {g : Tg} {tg : TG} {t : DT} {de : DE} {vs : List Nat} (hv : ∀ i ∈ g.ls, i ∈ vs)
    (hg : ∀ (d : D) (E : DEnv) (Q : DEnv → Prop) (v : V) (σ : L2.St) (H : Hp) (P : L2.St → Hp → Prop), dTg g d E Q → Sl K w H σ E → Rep K w H d v → (∀ E' xs, Sl K w H (setσ σ g.ls xs) E' → Q E' → P (setσ σ g.ls xs) H) → tg v σ H P)
    {σ : L2.St} {H : Hp} {Q : VK} (h : tD K w (dLc di g t de vs) σ H Q) : tLc (tiD K w di) tg (ttD K w t) (tD K w de) vs σ H Q := by
  obtain ⟨E, M, Q', sl, rm, h, k⟩ := h
  refine ⟨E, M, _, sl, rm, h, fun J H1 ds stay M1 t1 rm1 ok q => fun p hp => ?_⟩
  obtain ⟨I, i0, ist, turn, fin⟩ := q p (rm1.free hp)
  refine ⟨fun i m H' => ∃ acc M', m = ds.length - i ∧ i ≤ ds.length ∧ Tx K H1 H' ∧ Rm K w H' M' ∧ I i acc M', ⟨_, [], _, rfl, Nat.zero_le _, Tx.new hp, rm1.upd (mo := .lst []) (Tx.new hp) ⟨[], upd_same, .nil⟩, i0⟩, ?_⟩
  rintro i m H' ⟨acc, M', rfl, hi, t', rm', iv⟩
  have it := ok i H' M' t' rm' (ist i acc M' iv)
  by_cases hlt : i < ds.length
  · obtain ⟨go, yl⟩ := it.1 ds[i] (List.getElem?_eq_getElem hlt)
    refine .inr ⟨go, fun H2 => ∃ acc2 M2, Tx K H1 H2 ∧ Rm K w H2 M2 ∧ I (i + 1) acc2 M2, fun H2 ⟨acc2, M2, a, b, c⟩ => ⟨ds.length - (i + 1), by omega, acc2, M2, rfl, hlt, a, b, c⟩, fun x H2 y => ?_⟩
    obtain ⟨t2, rm2, r2⟩ := yl x H2 y
    refine hg ds[i] (wipeD E vs) _ x (wipe σ vs) H2 _ (turn i acc M' _ (List.getElem?_eq_getElem hlt) iv) ((((sl.mono t1).mono t').mono t2).wipe vs) r2 fun E3 xs sl3 q3 => ⟨?_, ?_⟩
    · rw [wipe_sets hv, wipe_idem fun i hi => hi]
    · have tt : Tx K H1 H2 := t'.trans t2
      refine ⟨E3, M', _, sl3, rm2, q3, fun b H4 M4 t4 rm4 q4 => ?_⟩
      cases b with
      | true =>
        refine ⟨E3, M4, _, sl3.mono t4, rm4, q4.1 rfl, fun v H5 d M5 t5 rm5 r5 q5 => ?_⟩
        obtain ⟨h1, h2, h3⟩ := q5
        obtain ⟨us, e, l⟩ := rm5 _ _ h1
        have tm : Tx K H5 (upd H5 p (.lst (us ++ [v]))) := Tx.mut e trivial
        exact ⟨us, e, by rw [l.length]; exact h2, _, _, tt.trans (t4.trans (t5.trans tm)), rm5.upd (mo := .lst (acc ++ [d])) tm ⟨_, upd_same, (l.append (.one r5)).mono tm⟩, h3⟩
      | false => exact ⟨_, _, tt.trans t4, rm4, q4.2 rfl⟩
  · have e : i = ds.length := by omega
    exact .inl ⟨it.2 e, k _ _ _ _ (t1.trans t') rm' (.ref p) (fin acc M' (by rw [← e]; exact iv))⟩
section
variable {X : Cx} {elt tg iter : Expr} {ifs : List Expr} {scope : Scope} {own : List (Str × Nat)} {pos : Pos} {di : DI} {g : Tg} {tG : TG} {t : DT} {de : DE}
theorem re_lc (hc : X.calm = true) (hN : X.N.Nodup) (hi : RI X tg iter di) (ok : BlkOk X.N X.env.scope scope own) (hv : ∀ i ∈ g.ls, i ∈ own.map (·.2))
    (hg : ∀ (s : Shared) (H : Hp) (C : Addr) (cl : List (Str × Addr)) (fp : List Addr), PTg (X.blk s H scope (compEnvC scope cl C X.env) fp) tg g tG)
    (ht : ∀ (s : Shared) (H : Hp) (C : Addr) (cl : List (Str × Addr)) (fp : List Addr), RTs (X.blk s H scope (compEnvC scope cl C X.env) fp) ifs t)
    (he : ∀ (s : Shared) (H : Hp) (C : Addr) (cl : List (Str × Addr)) (fp : List Addr), RE (X.blk s H scope (compEnvC scope cl C X.env) fp) elt de)
    (hs : ∀ x, foldedSetIterable iter X.env x = pure x := by intro _; rfl) : RE X (.ListComp elt [⟨tg, iter, ifs, 0⟩] scope pos) (dLc di g t de (own.map (·.2))) :=
  pe_imp (pe_lc hc hN hi ok (fun s H C cl fp => (hg s H C cl fp).pg) (fun s H C cl fp => (ht s H C cl fp).pt) he hs) fun σ H Q h => by
    refine lc_to hv (fun d E Q v σ H P => ?_) h
    exact (hg {} H 0 [] []).to d E Q v σ H P
theorem rs_setLc {i : Nat} {y : Str} {py spos : Pos} (hc : X.calm = true) (hN : X.N.Nodup) (hy : X.N[i]? = some y) (hyl : X.env.scope.names.lookup y = some .local)
    (hsw : swapsWith (.ListComp elt [⟨tg, iter, ifs, 0⟩] scope pos) (some (.Name y py)) spos.line X.env = pure true) (hi : RI X tg iter di) (ok : BlkOk X.N X.env.scope scope own) (hv : ∀ i ∈ g.ls, i ∈ own.map (·.2))
    (hg : ∀ (s : Shared) (H : Hp) (C : Addr) (cl : List (Str × Addr)) (fp : List Addr), PTg (X.blk s H scope (compEnvC scope cl C X.env) fp) tg g tG)
    (ht : ∀ (s : Shared) (H : Hp) (C : Addr) (cl : List (Str × Addr)) (fp : List Addr), RTs (X.blk s H scope (compEnvC scope cl C X.env) fp) ifs t)
    (he : ∀ (s : Shared) (H : Hp) (C : Addr) (cl : List (Str × Addr)) (fp : List Addr), RE (X.blk s H scope (compEnvC scope cl C X.env) fp) elt de)
    (hs : ∀ x, foldedSetIterable iter X.env x = pure x := by intro _; rfl) : RS X (.Assign [.Name y py] (.ListComp elt [⟨tg, iter, ifs, 0⟩] scope pos) spos) (dAsg (dLc di g t de (own.map (·.2))) (.nm i)) :=
  fun W tk => ps_imp (ps_setLc hc hN hy hyl hsw hi ok (fun s H C cl fp => (hg s H C cl fp).pg) (fun s H C cl fp => (ht s H C cl fp).pt) he hs) fun D σ H ⟨E, M, D', sl, rm, h, k⟩ => by
    refine lc_to (Q := fun x H1 => gName i x σ H1 D.nx) hv (fun d E Q v σ H P => ?_) ⟨E, M, _, sl, rm, h, fun v H1 d M1 t1 rm1 r1 q1 => k.nx _ _ _ _ t1 ((sl.mono t1).set r1 i) rm1 q1⟩
    exact (hg {} H 0 [] []).to d E Q v σ H P
end
end DH

set_option Elab.async false
set_option linter.all false
set_option autoImplicit false
set_option maxRecDepth 100000
set_option maxHeartbeats 2000000
/-! Deep readings: comprehensions with two clauses, dict displays. -/
namespace DH
open PySem PySem.Spec PyProof.Rows L2
section
variable {X : Cx} {elt tg iter tg1 iter1 : Expr} {ifs ifs1 : List Expr} {scope : Scope} {own : List (Str × Nat)} {pos : Pos} {di di1 : DI} {g g1 : Tg} {tG tG1 : TG} {t t1 : DT} {de : DE} {vs1 : List Nat}
end

/-! ### dict displays -/
def dNewK : DE := fun _ M Q => ∀ p, M p = none → Q (.ref p) (updM M p (.dk []))
def dPairs : List (DE × DE) → DEnv → Mm → (List (D × D) → Mm → Prop) → Prop
  | [], _, M, Q => Q [] M
  | (dk, dv) :: r, E, M, Q => dk E M fun x M1 => dv E M1 fun y M2 => dPairs r E M2 fun ps M3 => Q ((x, y) :: ps) M3
def mergeD (kvs more : List (Key × D)) : List (Key × D) := more.foldl (fun acc kv => putD acc kv.1 kv.2) kvs
def dDisp (ps : List (DE × DE)) : DE := fun E M Q => ∀ p, M p = none → dPairs ps E (updM M p (.dk [])) fun prs M2 => M2 p = some (.dk []) ∧ ∃ kvs : List (Key × D), prs = kvs.map (fun kv => (keyD kv.1, kv.2)) ∧ kvs.length ≤ 15 ∧ Q (.ref p) (updM M2 p (.dk (mergeD [] kvs)))
/-- rows of pairs -/
inductive RepP (K : PySem.W.Frag) (w : World) (H : Hp) : List (D × D) → List (V × V) → Prop
  | nil : RepP K w H [] []
  | cons {a b : D} {x y : V} {r : List (D × D)} {s : List (V × V)} : Rep K w H a x → Rep K w H b y → RepP K w H r s → RepP K w H ((a, b) :: r) ((x, y) :: s)
section
variable {K : PySem.W.Frag} {w : World}
theorem RepP.mono {H H' : Hp} (t : Tx K H H') : ∀ {r : List (D × D)} {s : List (V × V)}, RepP K w H r s → RepP K w H' r s
  | _, _, .nil => .nil
  | _, _, .cons a b l => .cons (a.mono t) (b.mono t) (RepP.mono t l)
theorem pairs_to : ∀ {ps : List (DE × DE)} {E : DEnv} {M : Mm} {Q' : List (D × D) → Mm → Prop} {σ : L2.St} {H : Hp} {Q : List (V × V) → Hp → Prop}, Sl K w H σ E → Rm K w H M → dPairs ps E M Q' →
    (∀ prs H' ds M', Tx K H H' → Rm K w H' M' → RepP K w H' ds prs → Q' ds M' → Q prs H') → tPairs (ps.map fun p => (tD K w p.1, tD K w p.2)) σ H Q
  | [], E, M, Q', σ, H, Q, sl, rm, h, k => k _ _ _ _ (Tx.refl _) rm .nil h
  | (dk, dv) :: r, E, M, Q', σ, H, Q, sl, rm, h, k => by
    refine ⟨E, M, _, sl, rm, h, fun v H1 d M1 t1 rm1 r1 q1 => ⟨E, M1, _, sl.mono t1, rm1, q1, fun u H2 d2 M2 t2 rm2 r2 q2 => ?_⟩⟩
    exact pairs_to ((sl.mono t1).mono t2) rm2 q2 fun prs H3 ds M3 t3 rm3 r3 q3 => k _ _ _ _ (t1.trans (t2.trans t3)) rm3 (.cons ((r1.mono t2).mono t3) (r2.mono t3) r3) q3
theorem repP_keys {H : Hp} : ∀ {kvs : List (Key × D)} {prs : List (V × V)}, RepP K w H (kvs.map fun kv => (keyD kv.1, kv.2)) prs → ∃ gs : List (Key × V), prs = gs.map (fun kv => (kV kv.1, kv.2)) ∧ RepF K w H kvs gs
  | [], _, .nil => ⟨[], rfl, .nil⟩
  | (k, d) :: r, _, .cons a b l => by
    obtain ⟨gs, rfl, rf⟩ := repP_keys l
    exact ⟨(k, _) :: gs, by rw [keyD_rep a]; rfl, .cons b rf⟩
theorem RepF.merge {H : Hp} : ∀ {more : List (Key × D)} {gs : List (Key × V)} {kvs : List (Key × D)} {ks : List (Key × V)}, RepF K w H more gs → RepF K w H kvs ks → RepF K w H (mergeD kvs more) (mergeK ks gs)
  | _, _, _, _, .nil, r => r
  | _, _, _, _, .cons (k := k) h l, r => by
    have q := RepF.merge l (r.put k h)
    exact q
end
section
variable {X : Cx} {pos : Pos}
theorem re_newK : RE X (.Dict [] [] pos) dNewK := pe_imp pe_dnewK fun σ H Q ⟨E, M, Q', sl, rm, h, k⟩ p hp =>
  k _ _ _ _ (Tx.new hp) (rm.upd (mo := .dk []) (Tx.new hp) ⟨[], upd_same, .nil⟩) (.ref p) (h p (rm.free hp))
theorem re_disp {keys : List (Option Expr)} {values : List Expr} {ps : List (DE × DE)} (h : PPs X pos keys values (ps.map fun p => (tD X.K X.w p.1, tD X.K X.w p.2))) (hall : keys.all (·.isSome) = true) (hl : keys.length = values.length) (h0 : keys ≠ [])
    (h15 : keys.length ≤ 15) : RE X (.Dict keys values pos) (dDisp ps) := pe_imp (pe_disp h hall hl h0 h15) fun σ H Q ⟨E, M, Q', sl, rm, h, k⟩ p hp => by
  have t0 : Tx X.K H (upd H p (.dK [])) := Tx.new hp
  refine pairs_to (sl.mono t0) (rm.upd (mo := .dk []) t0 ⟨[], upd_same, .nil⟩) (h p (rm.free hp)) fun prs H2 ds M2 t2 rm2 r2 q2 => ?_
  obtain ⟨h1, kvs, rfl, h3, h4⟩ := q2
  obtain ⟨gs, rfl, rf⟩ := repP_keys r2
  obtain ⟨ks, e, r0⟩ := rm2 _ _ h1
  cases r0
  have tm : Tx X.K H2 (upd H2 p (.dK (mergeK [] gs))) := Tx.mut e trivial
  refine ⟨e, gs, rfl, by rw [rf.length]; exact h3, ?_⟩
  exact k _ _ _ _ (t0.trans (t2.trans tm)) (rm2.upd (mo := .dk (mergeD [] kvs)) tm ⟨_, upd_same, (rf.merge .nil).mono tm⟩) (.ref p) h4
end
end DH
namespace DH
open PySem PySem.Spec PyProof.Rows L2
/-! ### callees by name -/
abbrev Xf (P : Program) (w : World) (K : PySem.W.Frag) (mg : Str → Option Value) (base : Heap) (N : List Str) (qual : Str) (scope : Scope) (f : Addr) (cdv : Value) (A : Around) (outer : List Env) (s : Shared) (H : Hp) (E : XK) : Cx := (cxOf CX0 P w K mg base N qual scope f cdv A outer s H E).nox
/-- a def of the top that keeps the promise sp with k levels -/
structure Cal (P : Program) (w : World) (K : PySem.W.Frag) (mg : Str → Option Value) (base : Heap) (k : Nat) (x : Str) (ps : List Str) (sp : DSp) : Prop where
  ex : ∃ f fd, FnOk P w K mg base CX0 k f fd ps (spD K w sp) ∧ mg x = some (.ref f) ∧ PySem.W.keepIn K (.ref f) = true ∧ Binds K fd ps []
theorem Cal.mono {P : Program} {w : World} {K : PySem.W.Frag} {mg : Str → Option Value} {base : Heap} {j k : Nat} {x : Str} {ps : List Str} {sp : DSp} (C : Cal P w K mg base j x ps sp) (h : j ≤ k) : Cal P w K mg base k x ps sp :=
  let ⟨f, fd, F, r⟩ := C.ex; ⟨f, fd, F.mono h, r⟩
theorem Cal.imp {P : Program} {w : World} {K : PySem.W.Frag} {mg : Str → Option Value} {base : Heap} {k : Nat} {x : Str} {ps : List Str} {sp sp' : DSp} (C : Cal P w K mg base k x ps sp) (h : ∀ ds M Q E, sp' ds M Q E → sp ds M Q E) : Cal P w K mg base k x ps sp' :=
  let ⟨f, fd, F, r⟩ := C.ex; ⟨f, fd, F.imp fun vs H Q E ⟨ds, M, Q', E', a, b, c, d⟩ => ⟨ds, M, Q', E', a, b, h _ _ _ _ c, d⟩, r⟩
/-- a def as the top has it -/
def Top (K : PySem.W.Frag) (mg : Str → Option Value) (x : Str) (st : Stmt) : Prop := ∃ f fd, FunD K x x (defArgs st) (defBody st) (defScope st) [] [] f fd ∧ mg x = some (.ref f)
section
variable {X : Cx} {pos : Pos}
theorem re_cal {k : Nat} {x : Str} {ps : List Str} {sp : DSp} {p : Pos} {e : Expr} {es : List Expr} {dr : DA} (C : Cal X.prog X.w X.K X.mg X.base k x ps sp) (hr : Room k X.A) (ha : RA X (e :: es) dr) (hg : Gl X x := by rfl) (hdb : (x == ("__debug__" : Str)) = false := by decide)
    (he : starEach (e :: es) X.env = (false, eval e X.env) :: starEach es X.env := by rfl) (hpl : (backTo pos (starEach es X.env)).any (·.1) = false := by rfl) : RE X (.Call (.Name x p) (e :: es) [] pos) (dCall sp dr) :=
  let ⟨_, _, F, hm, hk, hb⟩ := C.ex; re_call F hr hg hm hk hb pass0 ha hdb he hpl
theorem re_gint {x : Str} {i : Int} (h : ∃ t, X.mg x = some (.int i t)) (hg : Gl X x := by rfl) (hd : (x == ("__debug__" : Str)) = false := by decide) : RE X (.Name x pos) (dC (.int i)) :=
  let ⟨t, e⟩ := h; re_c (pe_glob (v := .int i) hg e ⟨t, rfl⟩ hd) fun _ => .int i
theorem re_gstr {x z : Str} (h : ∃ t, X.mg x = some (.str z t)) (hg : Gl X x := by rfl) (hd : (x == ("__debug__" : Str)) = false := by decide) : RE X (.Name x pos) (dC (.str z)) :=
  let ⟨t, e⟩ := h; re_c (pe_glob (v := .str z) hg e ⟨t, rfl⟩ hd) fun _ => .str z
theorem re_gkd {x : Str} {kvs : List (Str × D)} (h : ∃ a, X.mg x = some (.ref a) ∧ KdAt X.K X.w a kvs) (hg : Gl X x := by rfl) (hd : (x == ("__debug__" : Str)) = false := by decide) : RE X (.Name x pos) (dC (.kd kvs)) :=
  let ⟨a, e, h⟩ := h; re_c (pe_glob (v := .ref a) hg e rfl hd) fun _ => .kd h
/-- a built-in class as a value -/
theorem pe_ty {x : Str} (c : Ty) (hm : X.mg x = none) (hv : bootBuiltins x = some (.type c.nm) := by decide +kernel) (hg : Gl X x := by rfl) (hn : x ≠ "__name__" := by decide) (hd : (x == ("__debug__" : Str)) = false := by decide) : PE X (.Name x pos) (tC (.ty c.nm)) := pe_bltn hg hm hv rfl hn hd
end
theorem cal_mk {P : Program} {w : World} {K : PySem.W.Frag} {mg : Str → Option Value} {base : Heap} {x : Str} {st : Stmt} {N ps : List Str} {k : Nat} {sp : DSp} {b : DS}
    (T : Top K mg x st) (S : FnScope N ps (defScope st)) (bd : ∀ (kV doc pm : Value) (an : Option Addr) (cdv ct : Value) (us : List Value), us.length = ps.length → bindArgs (PySem.W.fnOf x x (defArgs st) (defBody st) (defScope st) .none kV doc pm an cdv ct) ⟨us, []⟩ = pure (ps.zip us))
    (hb : ∀ (f : Addr) (cdv : Value) (A : Around) (outer : List Env) (s : Shared) (H : Hp) (E : XK), Room k (A.deeper (envOfC x (defScope st) s.heap.objs.size f cdv)) → RSs (Xf P w K mg base N x (defScope st) f cdv A outer s H E) (defBody st) b)
    (len : ∀ ds M Q E, sp ds M Q E → ds.length = ps.length)
    (hq : ∀ ds M Q E, sp ds M Q E → b { nx := fun _ M' => Q .non M', rt := Q } (startD N.length ds) M) : Cal P w K mg base (k + 1) x ps sp := by
  obtain ⟨f, fd, F, hm⟩ := T
  exact ⟨f, fd, fn_ok F S len (hb f) hq, hm, F.kp, F.bindsN bd⟩
end DH

set_option Elab.async false
set_option linter.all false
set_option autoImplicit false
set_option maxRecDepth 100000
set_option maxHeartbeats 4000000
/-! Deep readings: zip of a text and a tuple. -/
namespace DH
open PySem PySem.Spec PyProof.Rows L2
/-- a text's signs beside a tuple's items, in new pairs -/
def ItzS (K : PySem.W.Frag) (txt : Str) (b : Addr) : It :=
  ⟨fun i H => ∃ (ys : List V) (y : V), SqT K H b ys ∧ i < txt.cps.size ∧ ys[i]? = some y,
    fun i H v H' => ∃ T c y, v = .ref T ∧ H T = none ∧ H' = upd H T (.tup [.str ⟨#[c]⟩, y]) ∧ txt.cps[i]? = some c ∧ ∀ ys, SqT K H b ys → ys[i]? = some y,
    fun i H => ∃ ys : List V, SqT K H b ys ∧ i ≤ txt.cps.size ∧ i ≤ ys.length ∧ (i = txt.cps.size ∨ i = ys.length)⟩
/-- the five cells of the walk and the tuple lie apart -/
structure ZsApart (o TI TO i1 i2 b : Addr) : Prop where
  n1 : TI ≠ o
  n2 : TO ≠ o
  n3 : i1 ≠ o
  n4 : i2 ≠ o
  n5 : TI ≠ TO
  n6 : TI ≠ i1
  n7 : TI ≠ i2
  n8 : TO ≠ i1
  n9 : TO ≠ i2
  n10 : i1 ≠ i2
  b0 : b ≠ o
  b1 : b ≠ TI
  b2 : b ≠ TO
  b3 : b ≠ i1
  b4 : b ≠ i2
theorem ZsApart.sep {o TI TO i1 i2 b : Addr} (D : ZsApart o TI TO i1 i2 b) : ZipSep2 o TI TO i1 i2 [i1] [i2, b] where
  TIz := D.n1
  TOz := D.n2
  TITO := D.n5
  TIi1 := D.n6
  mem1 := by simp
  zf1 := by simp [D.n3.symm]
  Tf1 := by simp [D.n8]
  TIi2 := D.n7
  mem2 := by simp
  zf2 := by simp [D.n4.symm, D.b0.symm]
  Tf2 := by simp [D.n9, D.b2.symm]
  sep1_2 := by simp [D.n10, D.b3.symm]
  sep2_1 := by simp [D.n10.symm]
abbrev TnS (txt : Str) (tk : Tok) (o TI TO i1 i2 b : Addr) (i : Nat) (h : Heap) : Prop := IsZip h o TI TO .none ∧ IsPair h TI (.ref i1) (.ref i2) ∧ (∃ x y, IsPair h TO x y) ∧ h.IsStrIter i1 "str_ascii_iterator" txt tk i ∧ h.IsTupleIter i2 b i
theorem five {c o TI TO i1 i2 : Addr} {P : Addr → Prop} (hc : c ∈ [o, TI, TO, i1, i2]) (p0 : P o) (p1 : P TI) (p2 : P TO) (p3 : P i1) (p4 : P i2) : P c := by
  simp only [List.mem_cons, List.not_mem_nil, or_false] at hc
  rcases hc with rfl | rfl | rfl | rfl | rfl <;> assumption
theorem turn_zipS {P : Program} {w : World} {K : PySem.W.Frag} {elts : List Expr} {kk : Nat} {tpos : Pos} {txt : Str} {tk : Tok} {b o TI TO i1 i2 : Addr} (D : ZsApart o TI TO i1 i2 b) :
    Turn P w K (.Tuple elts kk tpos) (ItzS K txt b) [o, TI, TO, i1, i2] o (TnS txt tk o TI TO i1 i2 b) where
  mem := by simp
  obj := fun i h st c hc => by
    obtain ⟨hz, hI, ⟨x, y, hO⟩, ⟨o1, e1, _, d1⟩, ⟨o2, e2, _, d2⟩⟩ := st
    exact five (P := fun c => ∃ u, h.get? c = some u ∧ ∀ v, u.data ≠ .cell v) hc ⟨_, hz, fun v q => nomatch q⟩ ⟨_, hI, fun v q => nomatch q⟩ ⟨_, hO, fun v q => nomatch q⟩ ⟨o1, e1, fun v q => by rw [d1] at q; cases q⟩ ⟨o2, e2, fun v q => by rw [d2] at q; cases q⟩
  keep := fun i h h' st k => by
    obtain ⟨hz, hI, ⟨x, y, hO⟩, ⟨o1, e1, r1⟩, h2⟩ := st
    exact ⟨k o (by simp) _ hz, k TI (by simp) _ hI, ⟨x, y, k TO (by simp) _ hO⟩, ⟨o1, k i1 (by simp) o1 e1, r1⟩, h2.at fun u q => k i2 (by simp) u q⟩
  item := by
    intro Y eP ew eK calm i pins s σ H E I hf st hg
    subst eP ew eK
    obtain ⟨hz, hI, ⟨x0, y0, hO⟩, h1, h2⟩ := st
    obtain ⟨ys, y, hq, hi, hy⟩ := hg
    obtain ⟨its, rv, p, _⟩ := I.tuple hq
    obtain ⟨u2, hu2, ru2⟩ := rv.get hy
    have hh : Y.A.in1.handled = none := I.ok.hd calm
    have zl : o < s.heap.objs.size := Heap.lt_size hz
    have li : i < its.toArray.size := by
      rw [List.size_toArray]
      exact (List.getElem?_eq_some_iff.mp hu2).1
    refine wpAny_pyNext_zipD2_item D.sep (Draws.strAscii hh i1 txt tk) (Draws.tuple hh i2 b D.b4 its.toArray) hz hI hO h1 ⟨h2, p⟩ hi li fun v1 v2 h' t' q1 q2 z' O' st1 st2 hT hsz hk => ?_
    obtain ⟨c, tc, hc, rfl⟩ := q1
    obtain rfl : u2 = v2 := by
      have : its[i]? = some v2 := by simpa using q2
      rw [hu2] at this; exact Option.some.inj this
    refine ⟨_, rfl, wpAny_letOwnedTupleGo_zip (s := { s with heap := h', toks := t' }) z' fun g z2 sb => ?_⟩
    have gT : g.get? s.heap.objs.size = some { cls := .type "tuple", data := .seq #[.str ⟨#[c]⟩ tc, u2] } := (sb.2 _ (Nat.ne_of_gt zl)).trans hT
    have ok2 : ObjOk Y.prog Y.w (upd H s.heap.objs.size (.tup [.str ⟨#[c]⟩, y])) g s.heap.objs.size (.tup [.str ⟨#[c]⟩, y]) :=
      ⟨by show 2 ≤ sizeLine; decide, [.str ⟨#[c]⟩ tc, u2], .cons ⟨tc, rfl⟩ (.cons ru2 .nil), ⟨_, gT, rfl, _, rfl⟩⟩
    have hk2 : ∀ d u, d ∉ [o, TI, TO, i1, i2] → s.heap.get? d = some u → g.get? d = some u := fun d u nd e => by
      simp only [List.mem_cons, List.not_mem_nil, or_false, not_or] at nd
      exact (sb.2 d nd.1).trans (hk d u nd.1 nd.2.2.1 nd.2.2.2.1 nd.2.2.2.2 e)
    have J : Inv Y pins σ (upd H s.heap.objs.size (.tup [.str ⟨#[c]⟩, y])) { s with heap := g, toks := t' } := I.turnedNew (t' := t') (ch := [o, TI, TO, i1, i2]) hk2 hf (Nat.le_refl _) ok2
    refine ⟨.ref s.heap.objs.size, _, J, rfl, ⟨_, c, y, rfl, I.hok.fresh (Nat.le_refl _), rfl, hc, fun l hl => by rw [I.tuple_inj hl hq]; exact hy⟩, ⟨z2, ?_, ⟨_, _, (sb.2 _ D.n2).trans O'⟩, ?_, ?_⟩, fun d hd => ?_⟩
    · exact (sb.2 _ D.n1).trans (hk _ _ D.n1 D.n5 D.n6 D.n7 hI)
    · obtain ⟨a1, a2, a3⟩ := st1
      exact ⟨a1, (sb.2 _ D.n3).trans a2, a3⟩
    · exact st2.1.at fun u q => (sb.2 _ D.n4).trans q
    · have lt : d < s.heap.objs.size := five (P := fun d => d < s.heap.objs.size) hd zl (Heap.lt_size hI) (Heap.lt_size hO) (by obtain ⟨_, e1, _⟩ := h1; exact Heap.lt_size e1) (by obtain ⟨_, e2, _⟩ := h2; exact Heap.lt_size e2)
      rw [upd_ne (Nat.ne_of_lt lt)]
      exact (hf d hd).1
  done := by
    intro Y eP ew eK calm i pins s σ H E I hf st hg
    subst eP ew eK
    obtain ⟨hz, hI, ⟨x0, y0, hO⟩, h1, h2⟩ := st
    obtain ⟨ys, hq, l1, l2, hend⟩ := hg
    obtain ⟨its, rv, p, _⟩ := I.tuple hq
    have hh : Y.A.in1.handled = none := I.ok.hd calm
    have ll := rv.length
    have e5 : its.toArray.size = ys.length := by rw [List.size_toArray]; omega
    refine wpAny_pyNext_zipD2_end D.sep (Draws.strAscii hh i1 txt tk) (Draws.tuple hh i2 b D.b4 its.toArray) hz hI hO h1 ⟨h2, p⟩ l1 (e5 ▸ l2) (hend.imp id fun z => e5 ▸ z) fun h' t' hk => ⟨rfl, ?_⟩
    exact I.turnedL (t' := t') (ch := [o, TI, TO, i1, i2]) (fun d u nd e => by
      simp only [List.mem_cons, List.not_mem_nil, or_false, not_or] at nd
      exact hk d u nd.1 nd.2.2.1 nd.2.2.2.1 nd.2.2.2.2 e) hf
  self := fun A i s Q E st h => wpAny_pyIter_zip st.1 h
/-! ### the zip is made -/
abbrev cellI (n : String) (v : Value) : Obj := { cls := .type n, data := .fields #[v, .int 0 0] }
abbrev cellT (x y : Value) : Obj := { cls := .type "tuple", data := .seq #[x, y] }
abbrev zs1 (h : Heap) (v : Value) : Heap := h.push (cellI "str_ascii_iterator" v)
abbrev zs2 (h : Heap) (v u : Value) : Heap := (zs1 h v).push (cellI "tuple_iterator" u)
abbrev zs3 (h : Heap) (v u : Value) : Heap := (zs2 h v u).push (cellT (.ref h.objs.size) (.ref (zs1 h v).objs.size))
abbrev zs4 (h : Heap) (v u : Value) : Heap := (zs3 h v u).push (cellT .none .none)
abbrev zs5 (h : Heap) (v u : Value) : Heap := (zs4 h v u).push { cls := .type "zip", data := .fields #[.none, .bool false, .bool false, .ref (zs2 h v u).objs.size, .ref (zs3 h v u).objs.size] }
theorem meets_zipS (txt : Str) (tk : Tok) (b : Addr) (ys : Array Value) (ha : txt.cps.all (· < 128) = true) :
    Meets (Builtin.«zip.__new__» ⟨[.type "zip", .str txt tk, .ref b], []⟩) (fun _ R s => s.heap.IsTuple b ys ∧ R (.ok (.ret (.ref (zs4 s.heap (.str txt tk) (.ref b)).objs.size))) { s with heap := zs5 s.heap (.str txt tk) (.ref b) }) :=
  .of_wp fun prog w A R s h => by
    obtain ⟨hp, g, d, t, os⟩ := s
    obtain ⟨hb, h⟩ := h
    have isub := sub_zip
    have hb2 : Heap.IsTuple (Shared.heap ⟨hp.push (cellI "str_ascii_iterator" (.str txt tk)), g, d, t, os⟩) b ys := Heap.IsTuple.push hb _
    wp_walk using wpAny_pyIter_ascii ha, wpAny_pyIter_tuple hb2
    exact ⟨_, rfl, h⟩
theorem call_zipS {prog : Program} {w : World} {A : Around} {E : Value → Shared → Prop} {s : Shared} {txt : Str} {tk : Tok} {b : Addr} {ys : Array Value} {Q : Value → Shared → Prop} (ha : txt.cps.all (· < 128) = true) (hb : s.heap.IsTuple b ys)
    (h : ∀ h' : Heap, TnS txt tk (s.heap.objs.size + 4) (s.heap.objs.size + 2) (s.heap.objs.size + 3) s.heap.objs.size (s.heap.objs.size + 1) b 0 h' → (∀ c u, s.heap.get? c = some u → h'.get? c = some u) → Q (.ref (s.heap.objs.size + 4)) { s with heap := h' }) :
    wpAny (model prog w) A (call (.type "zip") [.str txt tk, .ref b]) Q E s := by
  refine callType_new F.called_zip (by decide) (F.typeCall_zip_2 _ _) (F.newCall_zip_2 _ _) (fun obj => F.args_object_init_3 obj _ _) F.entry_zip_new (meets_zipS txt tk b ys ha) ⟨hb, ?_⟩
  have m1 : (zs1 s.heap (.str txt tk)).objs.size = s.heap.objs.size + 1 := Heap.size_push ..
  have m2 : (zs2 s.heap (.str txt tk) (.ref b)).objs.size = s.heap.objs.size + 2 := by rw [Heap.size_push, m1]
  have m3 : (zs3 s.heap (.str txt tk) (.ref b)).objs.size = s.heap.objs.size + 3 := by rw [Heap.size_push, m2]
  have m4 : (zs4 s.heap (.str txt tk) (.ref b)).objs.size = s.heap.objs.size + 4 := by rw [Heap.size_push, m3]
  have up1 : ∀ c u, (zs4 s.heap (.str txt tk) (.ref b)).get? c = some u → (zs5 s.heap (.str txt tk) (.ref b)).get? c = some u := fun c u e => Heap.get?_push_of_some _ e
  have up2 : ∀ c u, (zs3 s.heap (.str txt tk) (.ref b)).get? c = some u → (zs5 s.heap (.str txt tk) (.ref b)).get? c = some u := fun c u e => up1 _ _ (Heap.get?_push_of_some _ e)
  have up3 : ∀ c u, (zs2 s.heap (.str txt tk) (.ref b)).get? c = some u → (zs5 s.heap (.str txt tk) (.ref b)).get? c = some u := fun c u e => up2 _ _ (Heap.get?_push_of_some _ e)
  have up4 : ∀ c u, (zs1 s.heap (.str txt tk)).get? c = some u → (zs5 s.heap (.str txt tk) (.ref b)).get? c = some u := fun c u e => up3 _ _ (Heap.get?_push_of_some _ e)
  have k5 : (zs5 s.heap (.str txt tk) (.ref b)).get? (zs4 s.heap (.str txt tk) (.ref b)).objs.size = some _ := Heap.get?_push_size _ rfl
  have k4 := up1 _ _ (Heap.get?_push_size (h := zs3 s.heap (.str txt tk) (.ref b)) (o := cellT .none .none) rfl)
  have k3 := up2 _ _ (Heap.get?_push_size (h := zs2 s.heap (.str txt tk) (.ref b)) (o := cellT (.ref s.heap.objs.size) (.ref (zs1 s.heap (.str txt tk)).objs.size)) rfl)
  have k2 := up3 _ _ (Heap.get?_push_size (h := zs1 s.heap (.str txt tk)) (o := cellI "tuple_iterator" (.ref b)) rfl)
  have k1 := up4 _ _ (Heap.get?_push_size (h := s.heap) (o := cellI "str_ascii_iterator" (.str txt tk)) rfl)
  rw [m4, m2, m3] at k5
  rw [m3] at k4
  rw [m2, m1] at k3
  rw [m1] at k2
  show _ ∧ _
  rw [m4]
  exact ⟨⟨_, k5, rfl⟩, h _ ⟨k5, k3, ⟨_, _, k4⟩, ⟨_, k1, rfl, rfl⟩, ⟨_, k2, rfl, rfl⟩⟩ fun c u e => up4 _ _ (Heap.get?_push_of_some _ e)⟩

theorem zs_apart (n : Nat) {b : Addr} (hb : b < n) : ZsApart (n + 4) (n + 2) (n + 3) n (n + 1) b := by
  have hb : @LT.lt Nat _ b n := hb
  constructor
  all_goals (show @Ne Nat _ _; omega)
/-- zip of two lists, of two tuples, of a text and a tuple -/
theorem pi_zipB {X : Cx} {e e2 : Expr} {ta : TA} {p pos tpos : Pos} {elts : List Expr} {kk : Nat} (hg : Gl X "zip") (hm : X.mg "zip" = none) (ha : PA X [e, e2] ta)
    (hs : starEach [e, e2] X.env = (false, eval e X.env) :: starEach [e2] X.env) (hpl : (backTo pos (starEach [e2] X.env)).any (·.1) = false) :
    PI X (.Tuple elts kk tpos) (.Call (.Name "zip" p) [e, e2] [] pos) (fun σ H R => ta σ H fun vs H1 => (∃ a b xs ys, vs = [.ref a, .ref b] ∧ ((SqL X.K H1 a xs ∧ SqL X.K H1 b ys ∧ R (Itz X.K a b) H1) ∨ (SqT X.K H1 a xs ∧ SqT X.K H1 b ys ∧ R (RZ.ItzT X.K a b) H1))) ∨
      ∃ txt b ys, vs = [.str txt, .ref b] ∧ txt.cps.all (· < 128) = true ∧ SqT X.K H1 b ys ∧ R (ItzS X.K txt b) H1) := ⟨fun pins s σ H R I h => by
  refine Call_ (ld_blt I hg hm PyProof.Rows.boot_zip (PyProof.Rows.callWith_type1 (thn (ha.run pos pins s σ H _ I h) fun us s1 g => ?_) hs hpl))
  obtain ⟨vs, H1, J, rr, q⟩ := g
  have fr : ∀ c ∈ [s1.heap.objs.size + 4, s1.heap.objs.size + 2, s1.heap.objs.size + 3, s1.heap.objs.size, s1.heap.objs.size + 1], FpOk X pins H1 c := fun c hc => by
    have hle : s1.heap.objs.size ≤ c := five (P := fun c => s1.heap.objs.size ≤ c) hc (Nat.le_add_right _ _) (Nat.le_add_right _ _) (Nat.le_add_right _ _) (Nat.le_refl _) (Nat.le_add_right _ _)
    exact J.fpOk hle (J.hok.fresh hle)
  rcases q with ⟨a, b, xs, ys, rfl, q⟩ | ⟨txt, b, ys, rfl, asc, hq, q⟩
  · cases rr with
    | cons ra rr =>
      cases rr with
      | cons rb rr =>
        cases rr
        cases ra
        cases rb
        rcases q with ⟨hx, hy, q⟩ | ⟨hx, hy, q⟩
        · obtain ⟨l1, v1, p1, _⟩ := J.list hx
          obtain ⟨l2, v2, p2, _⟩ := J.list hy
          refine PySem.call_zip_2 p1.isList p2.isList fun h' c1 c2 c3 c4 c5 _ up => wpAny_pyIter_zip c1 ?_
          exact ⟨_, _, _, _, H1, rfl, J.kept (t' := s1.toks) up, turn_zip (PySem.W.ktu_apart s1.heap.objs.size a b p1.lt p2.lt), ⟨c1, c2, ⟨_, _, c3⟩, c4, c5⟩, fr, q⟩
        · obtain ⟨l1, v1, p1, _⟩ := J.tuple hx
          obtain ⟨l2, v2, p2, _⟩ := J.tuple hy
          obtain ⟨o1, g1, _⟩ := id p1
          obtain ⟨o2, g2, _⟩ := id p2
          refine RZ.call_zipT (show s1.heap.IsTuple a l1.toArray from p1) (show s1.heap.IsTuple b l2.toArray from p2) fun h' c1 c2 c3 c4 c5 _ up => wpAny_pyIter_zip c1 ?_
          exact ⟨_, _, _, _, H1, rfl, J.kept (t' := s1.toks) up, RZ.turn_zipT (PySem.W.ktu_apart s1.heap.objs.size a b (Heap.lt_size g1) (Heap.lt_size g2)), ⟨c1, c2, ⟨_, _, c3⟩, c4, c5⟩, fr, q⟩
  · cases rr with
    | cons ra rr =>
      cases rr with
      | cons rb rr =>
        cases rr
        obtain ⟨tk, rfl⟩ := ra
        cases rb
        obtain ⟨its, rv, pt, _⟩ := J.tuple hq
        obtain ⟨ob, hob, _⟩ := id pt
        refine call_zipS asc pt fun h' st up => wpAny_pyIter_zip st.1 ?_
        exact ⟨_, _, _, _, H1, rfl, J.kept (t' := s1.toks) up, turn_zipS (zs_apart _ (Heap.lt_size hob)), st, fr, q⟩⟩
end DH

set_option Elab.async false
set_option linter.all false
set_option autoImplicit false
set_option maxRecDepth 100000
set_option maxHeartbeats 2000000
/-! Deep readings: instances, zip, str, statements that are not reached. -/
namespace DH
open PySem PySem.Spec PyProof.Rows L2 RZ
/-! ### fields -/
def putA (f : Str) (v : D) : List (Str × D) → List (Str × D)
  | [] => [(f, v)]
  | (g, x) :: r => if g = f then (g, v) :: r else (g, x) :: putA f v r
theorem RepF.putA {K : PySem.W.Frag} {w : World} {H : Hp} {f : Str} {d : D} {x : V} (rx : Rep K w H d x) : ∀ {fs : List (Str × D)} {gs : List (Str × V)}, RepF K w H fs gs → RepF K w H (DH.putA f d fs) (L2.putF f x gs)
  | _, _, .nil => .cons rx .nil
  | _, _, .cons (k := g) h l => by
    show RepF K w H (if g = f then (g, d) :: _ else (g, _) :: DH.putA f d _) (if g = f then (g, x) :: _ else (g, _) :: L2.putF f x _)
    by_cases e : g = f
    · rw [if_pos e, if_pos e]; exact .cons rx l
    · rw [if_neg e, if_neg e]; exact .cons h (RepF.putA rx l)
/-- a class that gives its instances the attribute f -/
abbrev CF := Addr → Str → Prop
def CfOk (K : PySem.W.Frag) (cl : CF) : Prop := ∀ C f, cl C f → Cls K C ∧ NoAttr K C f
def dFld (cl : CF) (f : Str) (de : DE) : DE := fun E M Q => de E M fun x M1 => ∃ a C fs d, x = .ref a ∧ M1 a = some (.ins C fs) ∧ cl C f ∧ fs.lookup f = some d ∧ Q d M1
def dSetFld (cl : CF) (f : Str) (dv do_ : DE) : DS := fun D E M => dv E M fun y M1 => do_ E M1 fun x M2 => ∃ a C fs, x = .ref a ∧ M2 a = some (.ins C fs) ∧ cl C f ∧ fs.length < 1000 ∧ D.nx E (updM M2 a (.ins C (putA f y fs)))
def dNever : DS := fun _ _ _ => False
section
variable {X : Cx} {cl : CF} {o e v : Expr} {do_ de dv : DE} {f : Str} {pos pos' p : Pos}
theorem re_fld (hcl : CfOk X.K cl) (he : RE X e de) (hb : attributeBase e f X.env (eval e X.env) = eval e X.env := by rfl) : RE X (.Attribute e f pos) (dFld cl f de) :=
  pe_imp (pe_fld he hb) fun σ H Q ⟨E, M, Q', sl, rm, h, k⟩ => ⟨E, M, _, sl, rm, h, fun v H1 d M1 t1 rm1 r1 q1 => by
    obtain ⟨a, C, fs, d', rfl, hM, hc, hl, q⟩ := q1
    obtain ⟨dx, gs, hH, rf⟩ := rm1 a _ hM
    obtain ⟨x, hx, rx⟩ := rf.lookup hl
    exact ⟨a, C, dx, gs, x, r1.inv_ref, hH, (hcl C f hc).1, (hcl C f hc).2, hx, k _ _ _ _ t1 rm1 rx q⟩⟩
theorem rs_setFld (hcl : CfOk X.K cl) (ho : RE X o do_) (hv : RE X v dv) (hs : swapsWith v (some (.Attribute o f pos')) pos.line X.env = pure false := by rfl) : RS X (.Assign [.Attribute o f pos'] v pos) (dSetFld cl f dv do_) :=
  fun W tk => ps_imp (ps_fld ho hv hs) fun D σ H ⟨E, M, D', sl, rm, h, k⟩ => ⟨E, M, _, sl, rm, h, fun x H1 d M1 t1 rm1 r1 q1 => ⟨E, M1, _, sl.mono t1, rm1, q1, fun y H2 d2 M2 t2 rm2 r2 q2 => by
    obtain ⟨a, C, fs, rfl, hM, hc, hl, q⟩ := q2
    obtain ⟨dx, gs, hH, rf⟩ := rm2 a _ hM
    have tm : Tx X.K H2 (upd H2 a (.ins C dx (L2.putF f x gs))) := Tx.mut hH trivial
    refine ⟨a, C, dx, gs, r2.inv_ref, hH, (hcl C f hc).1, (hcl C f hc).2, by rw [rf.length]; exact hl, ?_⟩
    exact k.nx _ _ _ _ ((t1.trans t2).trans tm) (((sl.mono t1).mono t2).mono tm) (rm2.upd (mo := .ins C (DH.putA f d fs)) tm ⟨dx, _, upd_same, (RepF.putA (r1.mono t2) rf).mono tm⟩) q⟩⟩
theorem rs_never {st : Stmt} : RS X st dNever := fun W tk => ⟨fun pins s σ H D I ⟨_, _, _, _, _, h, _⟩ => h.elim⟩
end
theorem ptg_two {X : Cx} {pos p1 p2 : Pos} {kk : Nat} {i j : Nat} {x y : Str} (hc : X.calm = true) (h1 : PG X (.Name x p1) (gName i)) (h2 : PG X (.Name y p2) (gName j)) : PTg X (.Tuple [.Name x p1, .Name y p2] kk pos) (.tp [i, j]) (gTup X.K 2 (gNames [i, j])) :=
  ptg_tup (is := [i, j]) hc (pgs_cons h1 (pgs_cons h2 pgs_nil)) rfl
/-! ### making an instance -/
/-- a class of the top whose __init__ keeps the promise sp -/
structure CalI (P : Program) (w : World) (K : PySem.W.Frag) (mg : Str → Option Value) (base : Heap) (k : Nat) (x : Str) (C : Addr) (ps : List Str) (sp : DSp) : Prop where
  ex : ∃ f fd, FnOk P w K mg base CX0 k f fd ps (spD K w sp) ∧ Mk K C f ∧ mg x = some (.ref C) ∧ Binds K fd ps []
theorem CalI.mono {P : Program} {w : World} {K : PySem.W.Frag} {mg : Str → Option Value} {base : Heap} {j k : Nat} {x : Str} {C : Addr} {ps : List Str} {sp : DSp} (c : CalI P w K mg base j x C ps sp) (h : j ≤ k) : CalI P w K mg base k x C ps sp :=
  let ⟨f, fd, F, r⟩ := c.ex; ⟨f, fd, F.mono h, r⟩
def dMake (C : Addr) (sp : DSp) (da : DA) : DE := fun E M Q => da E M fun vs M1 => ∀ x, M1 x = none → sp (.ref x :: vs) (updM M1 x (.ins C [])) (fun v M2 => v = .non ∧ Q (.ref x) M2) EX0
theorem re_make {X : Cx} {pos p : Pos} {k : Nat} {x : Str} {C : Addr} {ps : List Str} {sp : DSp} {e : Expr} {es : List Expr} {dr : DA} (c : CalI X.prog X.w X.K X.mg X.base k x C ps sp) (hr : Room (k + 1) X.A) (ha : RA X (e :: es) dr) (hg : Gl X x := by rfl) (hdb : (x == ("__debug__" : Str)) = false := by decide)
    (he : starEach (e :: es) X.env = (false, eval e X.env) :: starEach es X.env := by rfl) (hpl : (backTo pos (starEach es X.env)).any (·.1) = false := by rfl) : RE X (.Call (.Name x p) (e :: es) [] pos) (dMake C sp dr) := by
  obtain ⟨f, fd, F, M0, hm, hb⟩ := c.ex
  refine pe_imp (pe_make M0 F hr hg hm hb .nil pass0 ha hdb he hpl) fun σ H Q ⟨E, M, Q', sl, rm, h, k⟩ => ⟨E, M, _, sl, rm, h, fun vs H1 ds M1 t1 rm1 r1 q1 x dx hx hdx hne => ?_⟩
  have hx1 : upd H1 dx (.own x) x = none := by rw [upd_ne (Ne.symm hne)]; exact hx
  have tm : Tx X.K H1 (upd (upd H1 dx (.own x)) x (.ins C dx [])) := (Tx.new hdx).trans (Tx.new hx1)
  have rm2 := (rm1.keepNew (ho := .own x) hdx).upd (mo := .ins C []) (Tx.new (o := .ins C dx []) hx1) ⟨dx, [], upd_same, .nil⟩
  refine ⟨.ref x :: ds, updM M1 x (.ins C []), _, EX0, .cons (.ref x) (by rw [List.append_nil]; exact r1.mono tm), rm2, q1 x (rm1.free hx), fun v H' d M' t' rm' r' ⟨e1, q⟩ => ?_, fun _ _ _ _ _ _ z => z.elim⟩
  subst e1
  exact ⟨r'.inv_non, k _ _ _ _ ((t1.trans tm).trans t') rm' (.ref x) q⟩
theorem cali_mk {P : Program} {w : World} {K : PySem.W.Frag} {mg : Str → Option Value} {base : Heap} {x m qual : Str} {st : Stmt} {C f : Addr} {fd : FuncData} {N ps : List Str} {k : Nat} {sp : DSp} {b : DS}
    (F : FunD K m qual (defArgs st) (defBody st) (defScope st) [] [] f fd) (M0 : Mk K C f) (hm : mg x = some (.ref C)) (S : FnScope N ps (defScope st)) (bd : ∀ (kV doc pm : Value) (an : Option Addr) (cdv ct : Value) (us : List Value), us.length = ps.length → bindArgs (PySem.W.fnOf m qual (defArgs st) (defBody st) (defScope st) .none kV doc pm an cdv ct) ⟨us, []⟩ = pure (ps.zip us))
    (hb : ∀ (cdv : Value) (A : Around) (outer : List Env) (s : Shared) (H : Hp) (E : XK), Room k (A.deeper (envOfC qual (defScope st) s.heap.objs.size f cdv)) → RSs (Xf P w K mg base N qual (defScope st) f cdv A outer s H E) (defBody st) b)
    (len : ∀ ds M Q E, sp ds M Q E → ds.length = ps.length)
    (hq : ∀ ds M Q E, sp ds M Q E → b { nx := fun _ M' => Q .non M', rt := Q } (startD N.length ds) M) : CalI P w K mg base (k + 1) x C ps sp :=
  ⟨f, fd, fn_ok F S len hb hq, M0, hm, F.bindsN bd⟩
/-! ### zip -/
def zipD (xs ys : List D) : List D := (xs.zip ys).map fun p => .tup [p.1, p.2]
def dZip (da : DA) : DI := fun E M Q => da E M fun ds M1 => match ds with
  | [.tup xs, .tup ys] => Q (zipD xs ys) (fun _ => True) M1
  | [.ref a, .ref b] => ∃ xs ys, IsL M1 a xs ∧ IsL M1 b ys ∧ Q (zipD xs ys) (fun M => IsL M a xs ∧ IsL M b ys) M1
  | [.str z, .tup ys] => z.cps.all (· < 128) = true ∧ Q (zipD (strD z) ys) (fun _ => True) M1
  | _ => False
section
variable {K : PySem.W.Frag} {w : World} {H : Hp}
theorem zip_at {xs ys : List D} {i : Nat} {d : D} (h : (zipD xs ys)[i]? = some d) : ∃ x y, xs[i]? = some x ∧ ys[i]? = some y ∧ d = .tup [x, y] := by
  unfold zipD at h
  rw [List.getElem?_map] at h
  obtain ⟨p, h1, h2⟩ := Option.map_eq_some_iff.mp h
  obtain ⟨h3, h4⟩ := List.getElem?_zip_eq_some.mp h1
  exact ⟨p.1, p.2, h3, h4, h2.symm⟩
theorem zip_len (xs ys : List D) : (zipD xs ys).length = min xs.length ys.length := by unfold zipD; simp
theorem it_zipT {a b : Addr} {ds es : List D} {xs ys : List V} (sx : SqT K H a xs) (sy : SqT K H b ys) (lx : RepL K w H ds xs) (ly : RepL K w H es ys) : ItOk K w H (ItzT K a b) (zipD ds es) (fun _ => True) := fun i H' M t rm st => by
  refine ⟨fun d e => ?_, fun e => ⟨xs, ys, t.t _ _ sx, t.t _ _ sy, by rw [lx.length, ly.length, e, zip_len]; omega⟩⟩
  obtain ⟨x, y, ex, ey, rfl⟩ := zip_at e
  obtain ⟨u, e1, r⟩ := lx.get ex
  obtain ⟨v, e2, r2⟩ := ly.get ey
  refine ⟨⟨xs, ys, u, v, t.t _ _ sx, t.t _ _ sy, e1, e2⟩, fun z H2 h => ?_⟩
  obtain ⟨T, u', v', rfl, hT, rfl, h1, h2⟩ := h
  have q1 := h1 xs (t.t _ _ sx)
  have q2 := h2 ys (t.t _ _ sy)
  rw [e1] at q1; cases q1
  rw [e2] at q2; cases q2
  have tn : Tx K H' (upd H' T (.tup [u, v])) := Tx.new hT
  exact ⟨tn, rm.keepNew hT, .tup (.inl (.of upd_same)) (.cons ((r.mono t).mono tn) (.cons ((r2.mono t).mono tn) .nil))⟩
theorem it_zipL {a b : Addr} {ds es : List D} : ItOk K w H (Itz K a b) (zipD ds es) (fun M => IsL M a ds ∧ IsL M b es) := fun i H' M t rm ⟨sa, sb⟩ => by
  obtain ⟨xs, sx, lx⟩ := sa.sq rm
  obtain ⟨ys, sy, ly⟩ := sb.sq rm
  refine ⟨fun d e => ?_, fun e => ⟨xs, ys, sx, sy, by rw [lx.length, ly.length, e, zip_len]; omega⟩⟩
  obtain ⟨x, y, ex, ey, rfl⟩ := zip_at e
  obtain ⟨u, e1, r⟩ := lx.get ex
  obtain ⟨v, e2, r2⟩ := ly.get ey
  refine ⟨⟨xs, ys, u, v, sx, sy, e1, e2⟩, fun z H2 h => ?_⟩
  obtain ⟨T, u', v', rfl, hT, rfl, h1, h2⟩ := h
  have q1 := h1 xs sx
  have q2 := h2 ys sy
  rw [e1] at q1; cases q1
  rw [e2] at q2; cases q2
  have tn : Tx K H' (upd H' T (.tup [u, v])) := Tx.new hT
  exact ⟨tn, rm.keepNew hT, .tup (.inl (.of upd_same)) (.cons (r.mono tn) (.cons (r2.mono tn) .nil))⟩
theorem it_zipS {z : Str} {b : Addr} {es : List D} {ys : List V} (sy : SqT K H b ys) (ly : RepL K w H es ys) : ItOk K w H (ItzS K z b) (zipD (strD z) es) (fun _ => True) := fun i H' M t rm st => by
  have lz : (strD z).length = z.cps.size := by unfold strD; simp
  have l2 := ly.length
  have lm := zip_len (strD z) es
  refine ⟨fun d e => ?_, fun e => ⟨ys, t.t _ _ sy, by omega, by omega, by omega⟩⟩
  obtain ⟨x, y, ex, ey, rfl⟩ := zip_at e
  obtain ⟨v, e2, r2⟩ := ly.get ey
  have hi : i < z.cps.size := by rw [← lz]; exact (List.getElem?_eq_some_iff.mp ex).1
  refine ⟨⟨ys, v, t.t _ _ sy, hi, e2⟩, fun q H2 h => ?_⟩
  obtain ⟨T, c, v', rfl, hT, rfl, h1, h2⟩ := h
  have q2 := h2 ys (t.t _ _ sy)
  rw [e2] at q2; cases q2
  have ex2 : x = .str ⟨#[c]⟩ := by
    unfold strD at ex
    rw [List.getElem?_map, Array.getElem?_toList, h1] at ex
    exact (Option.some.inj ex).symm
  subst ex2
  have tn : Tx K H' (upd H' T (.tup [.str ⟨#[c]⟩, v])) := Tx.new hT
  exact ⟨tn, rm.keepNew hT, .tup (.inl (.of upd_same)) (.cons (.str _) (.cons ((r2.mono t).mono tn) .nil))⟩
end
theorem ri_zip {X : Cx} {e e2 : Expr} {da : DA} {p pos tpos : Pos} {elts : List Expr} {kk : Nat} (hg : Gl X "zip") (hm : X.mg "zip" = none) (ha : RA X [e, e2] da)
    (hs : starEach [e, e2] X.env = (false, eval e X.env) :: starEach [e2] X.env := by rfl) (hpl : (backTo pos (starEach [e2] X.env)).any (·.1) = false := by rfl) : RI X (.Tuple elts kk tpos) (.Call (.Name "zip" p) [e, e2] [] pos) (dZip da) := by
  have key : PI X (.Tuple elts kk tpos) (.Call (.Name "zip" p) [e, e2] [] pos) (fun σ H R => taD X.K X.w da σ H fun vs H1 => (∃ a b xs ys, vs = [.ref a, .ref b] ∧ ((SqL X.K H1 a xs ∧ SqL X.K H1 b ys ∧ R (Itz X.K a b) H1) ∨ (SqT X.K H1 a xs ∧ SqT X.K H1 b ys ∧ R (ItzT X.K a b) H1))) ∨ ∃ txt b ys, vs = [.str txt, .ref b] ∧ txt.cps.all (· < 128) = true ∧ SqT X.K H1 b ys ∧ R (ItzS X.K txt b) H1) := pi_zipB hg hm ha hs hpl
  refine pi_imp key fun σ H R ⟨E, M, Q', sl, rm, h, k⟩ => ⟨E, M, _, sl, rm, h, fun vs H' ds M' t rm' r q => ?_⟩
  split at q
  · obtain ⟨v, u, rfl, r1, r2⟩ := r.inv2
    obtain ⟨a, xs, rfl, sq, l⟩ := r1.inv_tup
    obtain ⟨b, ys, rfl, sq2, l2⟩ := r2.inv_tup
    exact .inl ⟨a, b, xs, ys, rfl, .inr ⟨sq, sq2, k _ _ _ _ _ t rm' (it_zipT sq sq2 l l2) q⟩⟩
  · obtain ⟨v, u, rfl, r1, r2⟩ := r.inv2
    obtain ⟨ds1, es1, h1, h2, h3⟩ := q
    obtain ⟨xs, sq, l⟩ := h1.sq rm'
    obtain ⟨ys, sq2, l2⟩ := h2.sq rm'
    exact .inl ⟨_, _, xs, ys, by rw [r1.inv_ref, r2.inv_ref], .inl ⟨sq, sq2, k _ _ _ _ _ t rm' it_zipL h3⟩⟩
  · obtain ⟨v, u, rfl, r1, r2⟩ := r.inv2
    obtain ⟨b, ys, rfl, sq2, l2⟩ := r2.inv_tup
    exact .inr ⟨_, b, ys, by rw [r1.inv_str], q.1, sq2, k _ _ _ _ _ t rm' (it_zipS sq2 l2) q.2⟩
  · exact q.elim
/-! ### str -/
end DH

set_option Elab.async false
set_option linter.all false
set_option autoImplicit false
set_option maxRecDepth 100000
set_option maxHeartbeats 2000000
/-! Deep readings: the top and the end. -/
namespace DH
open PySem PySem.Spec PyProof.Rows L2
theorem cal_no {P : Program} {w : World} {K : PySem.W.Frag} {mg : Str → Option Value} {base : Heap} {x : Str} {st : Stmt} {ps : List Str} {k : Nat} {sp : DSp}
    (T : Top K mg x st) (bd : ∀ (kV doc pm : Value) (an : Option Addr) (cdv ct : Value) (us : List Value), us.length = ps.length → bindArgs (PySem.W.fnOf x x (defArgs st) (defBody st) (defScope st) .none kV doc pm an cdv ct) ⟨us, []⟩ = pure (ps.zip us))
    (no : ∀ ds M Q E, ¬ sp ds M Q E) : Cal P w K mg base k x ps sp := by
  obtain ⟨f, fd, F, hm⟩ := T
  exact ⟨f, fd, ⟨fun vs H Q E ⟨ds, M, Q', E', _, _, h, _⟩ => (no _ _ _ _ h).elim, fun A outer s H args us vs Q E _ _ _ _ ⟨ds, M, Q', E', _, _, h, _⟩ => (no _ _ _ _ h).elim⟩, hm, F.kp, F.bindsN bd⟩
/-- scalars as the head names them -/
def toDv : D → He.Dv
  | .bl b => .bl b
  | .int i => .int i
  | .str x => .str x
  | _ => .non
def scalD : D → Bool
  | .non | .bl _ | .int _ | .str _ => true
  | _ => false
theorem flt_dv {d : D} (K : PySem.W.Frag) (h : scalD d = true) : Flt d ((toDv d).v K) := by
  cases d <;> first | (cases h; done) | constructor
theorem look_mem {z : Str} {d : D} : ∀ {kvs : List (Str × D)}, kvs.lookup z = some d → (z, d) ∈ kvs
  | [], h => by simp at h
  | (k, e) :: r, h => by
    rw [List.lookup_cons] at h
    cases q : z == k with
    | true =>
      rw [q] at h
      have e1 : z = k := eq_of_beq q
      cases h
      subst e1
      exact List.mem_cons_self
    | false =>
      rw [q] at h
      exact List.mem_cons_of_mem _ (look_mem h)
theorem look_none {z : Str} : ∀ {kvs : List (Str × D)}, kvs.lookup z = none → ∀ q ∈ kvs, q.1 ≠ z
  | [], _, q, h => by cases h
  | (k, e) :: r, h, q, hq => by
    rw [List.lookup_cons] at h
    cases c : z == k with
    | true => rw [c] at h; cases h
    | false =>
      rw [c] at h
      rcases List.mem_cons.mp hq with rfl | hq
      · intro e1
        have e1 : k = z := e1
        subst e1
        simp at c
      · exact look_none h q hq
theorem kdAt_of {K : PySem.W.Frag} {w : World} {a : Addr} {kvs : List (Str × D)} (hk : He.dicW K a = some (He.keysIn w.params (kvs.map (·.1)))) (hv : He.valsB K a (kvs.map fun q => (q.1, toDv q.2)) = true)
    (hs : kvs.length ≤ 1000) (hf : (kvs.all fun q => scalD q.2) = true) : KdAt K w a kvs := by
  obtain ⟨es, n, kd⟩ := He.dicW_ok hk
  have hm : es.toList.map He.keyOf = He.keysIn w.params (kvs.map (·.1)) := by
    unfold He.dicW at hk
    rw [kd.at_] at hk
    simp only [kd.low] at hk
    exact Option.some.inj hk
  have hsz : es.size = kvs.length := by
    have := congrArg List.length hm
    simpa [He.keysIn] using this
  refine ⟨⟨es, n, kd, hsz⟩, hs, fun z d h => ?_, fun z h => ?_⟩
  · have hq := look_mem h
    obtain ⟨u, h1, h2⟩ := He.valsB_ok hv (List.mem_map.mpr ⟨_, hq, rfl⟩)
    exact ⟨u, _, h1, h2, flt_dv K (List.all_eq_true.mp hf _ hq)⟩
  · have hno := look_none h
    have hkey : ∀ e ∈ es.toList, ∃ x t, e.key = .str x t ∧ x ≠ z := fun e he => by
      have h1 : He.keyOf e ∈ es.toList.map He.keyOf := List.mem_map.mpr ⟨e, he, rfl⟩
      rw [hm] at h1
      unfold He.keysIn at h1
      obtain ⟨k, hk2, h2⟩ := List.mem_map.mp h1
      obtain ⟨q, hq, rfl⟩ := List.mem_map.mp hk2
      unfold He.keyOf at h2
      split at h2
      · rename_i x t c
        have h3 := Option.some.inj h2
        have h4 : q.1 = x := congrArg (·.1) h3
        exact ⟨x, t, c, h4 ▸ hno q hq⟩
      · cases h2
    unfold PySem.W.nsIn
    rw [kd.at_]
    have h1 : es.toList.find? (fun e => e.key.isStr z) = none := by
      rw [List.find?_eq_none]
      intro e he
      obtain ⟨x, t, hx, hne⟩ := hkey e he
      rw [hx]
      simpa [Value.isStr] using hne
    have h2 : (es.toList.any fun e => e.refKey) = false := by
      rw [List.any_eq_false]
      intro e he
      obtain ⟨x, t, hx, hne⟩ := hkey e he
      unfold DictEntry.refKey
      rw [hx]; simp
    show (match es.toList.find? (·.key.isStr z) with
      | some e => some (some e.val)
      | none => if es.toList.any (·.refKey) then none else some none) = some none
    rw [h1]
    show (if (es.toList.any fun e => e.refKey) = true then none else some none) = some none
    rw [h2]; rfl
theorem tab_of {fa : List He.Fa} {fn : List He.DefD} {ts : List He.Tab} {w : World} {K : PySem.W.Frag} (c : He.SaysT fa fn ts w K) (i : Nat) {t : He.Tab} (h : ts[i]? = some t) : He.dicW K (t.1 K) = some (He.keysIn w.params t.2) := by
  have e : (ts.map fun t => He.dicW K (t.1 K)) = ts.map fun t => some (He.keysIn w.params t.2) := congrArg (fun z : He.AlT => z.2) c
  have e2 := congrArg (fun l => l[i]?) e
  simp only [List.getElem?_map, h, Option.map_some] at e2
  exact Option.some.inj e2
theorem start_rep {K : PySem.W.Frag} {w : World} {H : Hp} {a : Addr} {ns : List Int} (ho : Only H) (h : SqL K H a (ns.map V.int)) : RepL K w H [.fl (ns.map D.int)] [.ref a] := by
  refine .cons (.fl (xs := ns.map V.int) ?_ (RepL.ints ns)) .nil
  rcases h with h | h
  · rcases h with h | ⟨o, h⟩
    · rcases ho a with q | ⟨o, xs, q⟩
      · rw [h] at q; cases q
      · rw [h] at q; cases q
    · exact .inl ⟨o, h⟩
  · exact .inr h
theorem start_sp {K : PySem.W.Frag} {w : World} {H : Hp} {a : Addr} {ns : List Int} {sp : DSp} (ho : Only H) (h : SqL K H a (ns.map V.int)) (q : ∀ (Q : DQ) (E : DX), (∀ M, Q (.bl true) M) → sp [.fl (ns.map D.int)] (fun _ => none) Q E) : spD K w sp [.ref a] H (fun v _ => v = .bl true) fun _ _ _ => False :=
  ⟨_, fun _ => none, fun d _ => d = .bl true, fun _ _ _ => False, start_rep ho h, (fun a o e => by cases e), q _ _ fun _ => rfl, fun v H' d M' _ _ r e => (by
    subst e; exact r.inv_bl), fun _ _ _ _ _ _ h => h⟩
end DH

set_option Elab.async false
set_option linter.all false
set_option autoImplicit false
set_option maxRecDepth 100000
set_option maxHeartbeats 2000000
/-! Deep readings: exceptions. -/
namespace DH
open PySem PySem.Spec PyProof.Rows L2
/-! ### a def that may raise -/
theorem fn_okX {P : Program} {w : World} {K : PySem.W.Frag} {mg : Str → Option Value} {base : Heap} {x qual : Str} {params : Arguments} {body : List Stmt} {scope : Scope} {f : Addr} {fd : FuncData} {N ps : List Str} {k : Nat} {sp : DSp} {b : DS}
    (F : FunD K x qual params body scope [] [] f fd) (S : FnScope N ps scope) (len : ∀ ds M Q E, sp ds M Q E → ds.length = ps.length)
    (hb : ∀ (cdv : Value) (A : Around) (outer : List Env) (s : Shared) (H : Hp) (E : XK), Room k (A.deeper (envOfC qual scope s.heap.objs.size f cdv)) → RSs (cxOf (L2.CX P w) P w K mg base N qual scope f cdv A outer s H E) body b)
    (hq : ∀ ds M Q E, sp ds M Q E → b { nx := fun _ M' => Q .non M', rt := Q, xc := fun cls d _ M' => E cls d M' } (startD N.length ds) M) : FnOk P w K mg base (L2.CX P w) (k + 1) f fd ps (spD K w sp) := by
  refine F.ok S (fun vs H Q E h => ?_) (fun cdv A outer s H vs Q E hr h => ?_)
  · obtain ⟨ds, M, Q', E', r, _, h, _⟩ := h
    rw [r.length]
    exact len _ _ _ _ h
  · obtain ⟨ds, M, Q', E', r, rm, h, kc, ke⟩ := h
    refine ⟨_, hb cdv A outer s H E hr (fun cls d _ H => E cls d H) (takes_of rfl rfl rfl rfl), ⟨_, M, _, repL_at r, rm, hq _ _ _ _ h, ⟨fun σ' H' E' M' t _ rm' q => kc _ _ _ _ t rm' .non q, kc, fun _ _ _ _ _ _ _ z => z.elim, fun _ _ _ _ _ _ _ z => z.elim, fun cls d σ' H' E2 M' t _ rm' q => ke cls d H' M' t rm' q⟩⟩⟩
/-- a def of the top that may raise -/
structure CalX (P : Program) (w : World) (K : PySem.W.Frag) (mg : Str → Option Value) (base : Heap) (k : Nat) (x : Str) (ps : List Str) (sp : DSp) : Prop where
  ex : ∃ f fd, FnOk P w K mg base (L2.CX P w) k f fd ps (spD K w sp) ∧ mg x = some (.ref f) ∧ PySem.W.keepIn K (.ref f) = true ∧ Binds K fd ps []
theorem CalX.mono {P : Program} {w : World} {K : PySem.W.Frag} {mg : Str → Option Value} {base : Heap} {j k : Nat} {x : Str} {ps : List Str} {sp : DSp} (C : CalX P w K mg base j x ps sp) (h : j ≤ k) : CalX P w K mg base k x ps sp :=
  let ⟨f, fd, F, r⟩ := C.ex; ⟨f, fd, F.mono h, r⟩
theorem calx_mk {P : Program} {w : World} {K : PySem.W.Frag} {mg : Str → Option Value} {base : Heap} {x : Str} {st : Stmt} {N ps : List Str} {k : Nat} {sp : DSp} {b : DS}
    (T : Top K mg x st) (S : FnScope N ps (defScope st)) (bd : ∀ (kV doc pm : Value) (an : Option Addr) (cdv ct : Value) (us : List Value), us.length = ps.length → bindArgs (PySem.W.fnOf x x (defArgs st) (defBody st) (defScope st) .none kV doc pm an cdv ct) ⟨us, []⟩ = pure (ps.zip us))
    (hb : ∀ (f : Addr) (cdv : Value) (A : Around) (outer : List Env) (s : Shared) (H : Hp) (E : XK), Room k (A.deeper (envOfC x (defScope st) s.heap.objs.size f cdv)) → RSs (cxOf (L2.CX P w) P w K mg base N x (defScope st) f cdv A outer s H E) (defBody st) b)
    (len : ∀ ds M Q E, sp ds M Q E → ds.length = ps.length)
    (hq : ∀ ds M Q E, sp ds M Q E → b { nx := fun _ M' => Q .non M', rt := Q, xc := fun cls d _ M' => E cls d M' } (startD N.length ds) M) : CalX P w K mg base (k + 1) x ps sp := by
  obtain ⟨f, fd, F, hm⟩ := T
  exact ⟨f, fd, fn_okX F S len (hb f) hq, hm, F.kp, F.bindsN bd⟩
/-! ### calls that may raise, as statements -/
section
variable {X : Cx} {pos cpos : Pos} {k : Nat} {x : Str} {ps : List Str} {sp : DSp} {p : Pos} {e : Expr} {es : List Expr} {da : DA}
theorem pe_calX {W : WX} (C : CalX X.prog X.w X.K X.mg X.base k x ps sp) (hr : Room k X.A) (tk : L2.Takes X W) (ha : RA X (e :: es) da) (hg : Gl X x) (hdb : (x == ("__debug__" : Str)) = false)
    (he : starEach (e :: es) X.env = (false, eval e X.env) :: starEach es X.env) (hpl : (backTo cpos (starEach es X.env)).any (·.1) = false) : PE X (.Call (.Name x p) (e :: es) [] cpos) (tCallS (spD X.K X.w sp) (WE W) (taD X.K X.w da)) :=
  let ⟨_, _, F, hm, hk, hb⟩ := C.ex; pe_callS F hr hg hm hk hb (fun σ => passAt tk σ) ha hdb he hpl
end
/-! ### an own exception class with an __init__ of one argument -/
/-- the promise of such an __init__: the field f holds the argument -/
def spExc (K : PySem.W.Frag) (C : Addr) (f : Str) (okV : V → Prop) : Sp := fun vs H Q _ => ∃ a v, vs = [.ref a, v] ∧ okV v ∧ OexC K C ∧ PySem.W.findIn K (.ref C) f = some none ∧ H a = some (exo a C none) ∧ ∀ dx, H dx = none → dx ≠ a → Q .non (upd (upd H dx (exd dx [(f, v)])) a (exo a C (some dx)))
structure CalE (P : Program) (w : World) (K : PySem.W.Frag) (mg : Str → Option Value) (base : Heap) (k : Nat) (x : Str) (C : Addr) (f : Str) (okV : V → Prop) : Prop where
  ex : ∃ fI fd ps, FnOk P w K mg base CX0 k fI fd ps (spExc K C f okV) ∧ PySem.W.findIn K (.ref C) "__init__" = some (some (.ref fI)) ∧ PySem.W.typeIn K (.ref fI) = some (.type "function") ∧ Binds K fd ps [] ∧ mg x = some (.ref C) ∧ OexC K C ∧ PySem.W.findIn K (.ref C) f = some none
theorem CalE.mono {P : Program} {w : World} {K : PySem.W.Frag} {mg : Str → Option Value} {base : Heap} {j k : Nat} {x : Str} {C : Addr} {f : Str} {okV : V → Prop} (c : CalE P w K mg base j x C f okV) (h : j ≤ k) : CalE P w K mg base k x C f okV :=
  let ⟨fI, fd, ps, F, r⟩ := c.ex; ⟨fI, fd, ps, F.mono h, r⟩
theorem Tx.grow {K : PySem.W.Frag} {H H' : Hp} (h : ∀ b, H b ≠ none → H' b = H b) : Tx K H H' := ⟨fun a xs e => by
  rcases e with (e | ⟨u, e⟩) | e
  · exact .inl (.inl (by rw [h a (by rw [e]; simp)]; exact e))
  · exact .inl (.inr ⟨u, by rw [h a (by rw [e]; simp)]; exact e⟩)
  · exact .inr e, fun a u v e => by rw [h a (by rw [e]; simp)]; exact e⟩
def dRaise (C : Addr) (f : Str) (okD : D → Prop) (de : DE) : DS := fun D E M => de E M fun v M1 => okD v ∧ ∀ d, M1 d = none → D.xc (.ref C) (some d) E (updM M1 d (.xd [(f, v)]))
theorem rs_raise {X : Cx} {pos p cpos : Pos} {k : Nat} {x : Str} {C : Addr} {f : Str} {okV : V → Prop} {okD : D → Prop} {e : Expr} {de : DE} (c : CalE X.prog X.w X.K X.mg X.base k x C f okV) (hr : Room (k + 1) X.A) (hok : ∀ H d v, Rep X.K X.w H d v → okD d → okV v) (hcalm : X.calm = true) (he0 : RE X e de) (hg : Gl X x := by rfl) (hdb : (x == ("__debug__" : Str)) = false := by decide)
    (he : starEach [e] X.env = (false, eval e X.env) :: starEach [] X.env := by rfl) (hpl : (backTo cpos (starEach [] X.env)).any (·.1) = false := by rfl) : RS X (.Raise (some (.Call (.Name x p) [e] [] cpos)) none pos) (dRaise C f okD de) := fun W tk => by
  obtain ⟨fI, fd, ps, F, iC, tI, hb, hm, T, hno⟩ := c.ex
  refine ps_imp (ps_raise hcalm tk (pmk_oex T iC tI F hr hb .nil pass0 hg hm (pa_cons he0 pa_nil he) hdb he hpl)) fun D σ H ⟨E, M, D', sl, rm, h, kn⟩ => ?_
  refine ⟨E, M, _, sl, rm, h, fun v H1 dv M1 t1 rm1 r1 q1 => ⟨by show 1 ≤ 1000; decide, fun a ha => ?_⟩⟩
  refine ⟨a, v, rfl, hok H1 dv v r1 q1.1, T, hno, upd_same, fun dx hdx hne => ?_⟩
  have hdx1 : H1 dx = none := by rw [upd_ne hne] at hdx; exact hdx
  refine ⟨rfl, dx, [(f, v)], upd_same, by rw [upd_ne hne, upd_same], hdx1, ?_⟩
  have hoth : ∀ b, b ≠ dx → b ≠ a → (upd (del (upd (upd (upd H1 a (exo a C none)) dx (exd dx [(f, v)])) a (exo a C (some dx))) a) dx (.xd [(f, v)])) b = H1 b := fun b h1 h2 => by
    rw [upd_ne h1, del_ne h2, upd_ne h2, upd_ne h1, upd_ne h2]
  have tg : Tx X.K H1 (upd (del (upd (upd (upd H1 a (exo a C none)) dx (exd dx [(f, v)])) a (exo a C (some dx))) a) dx (.xd [(f, v)])) := Tx.grow fun b hb => hoth b (fun z => by subst z; exact hb hdx1) (fun z => by subst z; exact hb ha)
  have rmx : Rm X.K X.w (upd (del (upd (upd (upd H1 a (exo a C none)) dx (exd dx [(f, v)])) a (exo a C (some dx))) a) dx (.xd [(f, v)])) (updM M1 dx (.xd [(f, dv)])) := fun b o eb => by
    by_cases z : b = dx
    · subst z
      rw [updM_same] at eb
      cases eb
      exact ⟨_, upd_same, .cons (r1.mono tg) .nil⟩
    · rw [updM_ne z] at eb
      have hba : b ≠ a := fun q => by subst q; rw [rm1.free ha] at eb; cases eb
      exact (rm1 b o eb).keep (hoth b z hba) tg
  exact kn.xc _ _ _ _ _ _ (t1.trans tg) ((sl.mono t1).mono tg) rmx (q1.2 dx (rm1.free hdx1))
end DH

set_option Elab.async false
set_option linter.all false
set_option autoImplicit false
set_option maxRecDepth 100000
set_option maxHeartbeats 2000000
/-! Deep readings: own exception classes, from the head. -/
namespace DH
open PySem PySem.Spec PyProof.Rows L2
/-- a class below ValueError, as the head has it -/
def oexB (K : PySem.W.Frag) (C : Addr) : Bool := match K.lookup C with
  | some ⟨.type t, _, .cls ⟨_, _, mro, _, _, hd, _, _, _, _, del⟩, sl⟩ => (match mro, sl.toList with
    | .ref C' :: bm, [_, _, _, _, some (.builtin n), _] => decide (t = "type") && (decide (C' = C) && (decide (n = "ValueError.__new__") && (hd && (!del && PySem.HandSPX.refsVE bm))))
    | _, _ => false)
  | _ => false
theorem oexB_ok {K : PySem.W.Frag} {C : Addr} (h : oexB K C = true) : ∃ nm q N bs bm sn sub ab col dd k0 k1 k2 k3 k5, K.lookup C = some (excClassObj nm q C N bs bm true sn sub ab col dd k0 k1 k2 k3 k5 "ValueError.__new__") ∧ PySem.HandSPX.refsVE bm = true := by
  unfold oexB at h
  split at h
  · rename_i t dd nm bs mro N q hd sn sub ab col del sl ho
    split at h
    · rename_i C' bm k0 k1 k2 k3 n k5 hs
      simp only [Bool.and_eq_true, decide_eq_true_eq, Bool.not_eq_true'] at h
      obtain ⟨rfl, rfl, rfl, rfl, rfl, hr⟩ := h
      have e : sl = #[k0, k1, k2, k3, some (.builtin "ValueError.__new__"), k5] := by
        apply Array.toList_inj.mp
        rw [hs]
      subst e
      exact ⟨nm, q, N, bs, bm, sn, sub, ab, col, dd, k0, k1, k2, k3, k5, ho, hr⟩
    · cases h
  · cases h
def excB (K : PySem.W.Frag) (C : Addr) (f : Str) : Bool := oexB K C && (He.eqO (PySem.W.findIn K (.ref C) "__setattr__") (some (some (.builtin "object.__setattr__"))) && (decide (PySem.W.subIn K (.ref C) (.type "BaseException") = some true) && (decide (PySem.W.typeIn K (.ref C) = some (.type "type")) && (PySem.W.keepIn K (.ref C) &&
  (He.eqO (PySem.W.findIn K (.ref C) f) (some none) && (He.eqO (PySem.W.findIn K (.ref C) "__init__") (some (some (.ref (He.ma K C "__init__")))) && decide (PySem.W.typeIn K (.ref (He.ma K C "__init__")) = some (.type "function"))))))))
structure ExcF (K : PySem.W.Frag) (C : Addr) (f : Str) : Prop where
  T : OexC K C
  no : PySem.W.findIn K (.ref C) f = some none
  init : PySem.W.findIn K (.ref C) "__init__" = some (some (.ref (He.ma K C "__init__")))
  ty : PySem.W.typeIn K (.ref (He.ma K C "__init__")) = some (.type "function")
theorem excB_ok {K : PySem.W.Frag} {C : Addr} {f : Str} (h : excB K C f = true) : ExcF K C f := by
  unfold excB at h
  simp only [Bool.and_eq_true, decide_eq_true_eq] at h
  obtain ⟨h1, h2, h3, h4, h5, h6, h7, h8⟩ := h
  exact ⟨⟨oexB_ok h1, He.eqO_ok h2, h3, h4, h5⟩, He.eqO_ok h6, He.eqO_ok h7, h8⟩
/-- a base whose __init__ is ValueError's -/
def baseB (K : PySem.W.Frag) (C : Addr) : Bool := PySem.W.readsIn K C (.type "type") && (He.eqO (PySem.W.specialIn K (.ref C) "__getattribute__") (some (some (.builtin "type.__getattribute__"))) && (match PySem.W.findCls K (.ref C) (.type "type") "__init__" with
  | some (.val (.builtin n)) => decide (n = "ValueError.__init__")
  | _ => false))
structure BaseF (K : PySem.W.Frag) (C : Addr) : Prop where
  rd : PySem.W.readsIn K C (.type "type") = true
  ga : PySem.W.specialIn K (.ref C) "__getattribute__" = some (some (.builtin "type.__getattribute__"))
  at_ : PySem.W.findCls K (.ref C) (.type "type") "__init__" = some (.val (.builtin "ValueError.__init__"))
theorem baseB_ok {K : PySem.W.Frag} {C : Addr} (h : baseB K C = true) : BaseF K C := by
  unfold baseB at h
  simp only [Bool.and_eq_true] at h
  obtain ⟨h1, h2, h3⟩ := h
  refine ⟨h1, He.eqO_ok h2, ?_⟩
  split at h3
  · rename_i n e
    rw [e, of_decide_eq_true h3]
  · cases h3
section
variable {X : Cx} {e : Expr} {es : List Expr} {ta : TA} {p1 p2 pos : Pos} {bn : Str} {C0 : Addr}
theorem pe_baseInit {pl : Sem Bool} (hg : Gl X bn) (hm : X.mg bn = some (.ref C0)) (B : BaseF X.K C0) (ha : PA X (e :: es) ta) (hdb : (bn == ("__debug__" : Str)) = false := by decide)
    (hc : eval (.Call (.Attribute (.Name bn p1) "__init__" p2) (e :: es) [] pos) X.env = (do
      let ov ← eval (.Name bn p1) X.env
      standAt p2.atName
      let (f, first) ← holding [ov] (getMethod ov "__init__" pl)
      callWith pos f first (backTo pos (starEach (e :: es) X.env)) (backToKw pos (keywordEach [] X.env))) := by rfl)
    (he : starEach (e :: es) X.env = (false, eval e X.env) :: starEach es X.env := by rfl) (hpl : (backTo pos (starEach es X.env)).any (·.1) = false := by rfl) :
    PE X (.Call (.Attribute (.Name bn p1) "__init__" p2) (e :: es) [] pos) (tVeI X.K ta) :=
  ⟨fun pins s σ H Q I h => by
    refine PySem.W.methodCall_KW (ld_glob I hg hm (PySem.W.method_cls I.kIn B.ga (PySem.W.cls_value I.kIn B.rd B.at_ (by decide +kernel) ?_)) hdb) hc
    refine PyProof.Rows.callWith_method1 (thn (ha.run pos pins _ σ H _ (I.tok _) h) fun us s1 g => ?_) he hpl
    obtain ⟨vs, H1, J, rr, a, C, ws, rfl, hl, T, ea, q⟩ := g
    cases rr with
    | cons r1 r2 =>
      cases r1
      exact oinit_ok T J ea (by rw [← Paired.length r2, sizeLine_eq]; omega) fun s2 J2 => ⟨.non, H1, J2, rfl, q⟩⟩
end
end DH

set_option Elab.async false
set_option linter.all false
set_option autoImplicit false
set_option maxRecDepth 100000
set_option maxHeartbeats 2000000
/-! Deep readings: try, except as. -/
namespace DH
open PySem PySem.Spec PyProof.Rows L2
theorem Sl.unset {K : PySem.W.Frag} {w : World} {H : Hp} {σ : L2.St} {E : DEnv} (s : Sl K w H σ E) (i : Nat) : Sl K w H (σ.set i none) (E.set i none) := by
  refine ⟨by rw [List.length_set, List.length_set]; exact s.len, fun j d e => ?_⟩
  by_cases h : i = j
  · subst h
    rw [List.getElem?_set] at e
    split at e
    · split at e <;> simp at e
    · rename_i z; exact absurd rfl z
  · rw [List.getElem?_set_ne h] at e
    obtain ⟨v, h1, h2⟩ := s.at_ j d e
    exact ⟨v, by rw [List.getElem?_set_ne h]; exact h1, h2⟩
abbrev DSuite := Addr → Value → Option Addr → DS
def dTryAs (sub : Value → Option Bool) (i : Nat) (tb : DS) (ts : DSuite) : DS := fun D E M => tb { nx := D.nx, rt := D.rt, bk := D.bk, ct := D.ct, xc := fun cls d E' M' => ∃ b, sub cls = some b ∧
  (b = true → ∀ a, M' a = none → ts a cls d { nx := fun E2 M2 => D.nx (E2.set i none) M2, rt := D.rt, bk := fun E2 M2 => D.bk (E2.set i none) M2, ct := fun E2 M2 => D.ct (E2.set i none) M2 } (E'.set i (some (.ref a))) M') ∧ (b = false → D.xc cls d E' M') } E M
section
variable {X : Cx} {x n : Str} {c : Value} {i : Nat} {body suite : List Stmt} {b₀ : Stmt} {np pos pos' : Pos} {tb : DS} {ts : DSuite}
theorem rs_tryAs (hs : X.stack = X.env :: X.outer) (hf : X.env.frame = some X.env.locals) (hN : X.N.Nodup) (hi : X.N[i]? = some n) (hln : X.env.kindOf n = some .local) (hc : Names X x c)
    (hb : ∀ (pn : List (Addr × Obj)) (xe : Value → Shared → Prop), PassesOwn (model X.prog X.w) X.A X.env xe → RSs (X.tr pn xe) body tb)
    (hsu : ∀ (a : Addr) (oe : Obj) (cls : Value) (d : Option Addr) (pn : List (Addr × Obj)), Zc cls d oe → (∃ vs, oe.data = .fields vs) → RSs (X.suite a ((a, oe) :: pn)) (b₀ :: suite) (ts a cls d)) :
    RS X (.Try body [.ExceptHandler (some (.Name x np)) (some n) (b₀ :: suite) pos'] [] [] pos) (dTryAs (fun cls => PySem.W.exmOne X.K cls c) i tb ts) := fun W tk =>
  ps_imp (ps_try_as (tb := fun W' => tsD X.K X.w W' tb) (ts := fun a cls d => tsD X.K X.w (fun _ _ _ _ => False) (ts a cls d)) hs hf hN hi hln hc tk
    (fun W' pn xe tk' po => hb pn xe po W' tk') (fun a oe cls d pn hz hff => hsu a oe cls d pn hz hff _ takes0)) fun D σ H ⟨E, M, D', sl, rm, h, kn⟩ =>
    ⟨E, M, _, sl, rm, h, ⟨kn.nx, kn.rt, kn.bk, kn.ct, fun cls d σ' H' E' M' t sl' rm' q => by
      obtain ⟨b, hb1, yes, no⟩ := q
      refine ⟨b, hb1, fun hb a ha => ?_, fun hb => kn.xc cls d σ' H' E' M' t sl' rm' (no hb)⟩
      exact ⟨E'.set i (some (.ref a)), M', _, sl'.set (.ref a) i, rm', yes hb a (rm'.free ha),
        ⟨fun σ2 H2 E2 M2 t2 sl2 rm2 q2 => kn.nx _ _ _ _ (t.trans t2) (sl2.unset i) rm2 q2, fun v H2 d2 M2 t2 rm2 r2 q2 => kn.rt _ _ _ _ (t.trans t2) rm2 r2 q2,
          fun σ2 H2 E2 M2 t2 sl2 rm2 q2 => kn.bk _ _ _ _ (t.trans t2) (sl2.unset i) rm2 q2, fun σ2 H2 E2 M2 t2 sl2 rm2 q2 => kn.ct _ _ _ _ (t.trans t2) (sl2.unset i) rm2 q2, fun _ _ _ _ _ _ _ _ _ z => z.elim⟩⟩⟩⟩
end
/-! ### a field of the exception -/
def dXf (a : Addr) (cls : Value) (d : Option Addr) (C : Addr) (f : Str) (de : DE) : DE := fun E M Q => de E M fun x M1 => x = .ref a ∧ cls = .ref C ∧ ∃ dd fs v, d = some dd ∧ M1 dd = some (.xd fs) ∧ fs.lookup f = some v ∧ Q v M1
theorem re_xf {X : Cx} {a C : Addr} {oe : Obj} {cls : Value} {d : Option Addr} {pn : List (Addr × Obj)} {e : Expr} {de : DE} {pos : Pos} {n : Str} (T : XfC X.K C) (hno : PySem.W.findIn X.K (.ref C) n = some none)
    (hz : Zc cls d oe) (hf : ∃ vs, oe.data = .fields vs) (he : RE (X.suite a ((a, oe) :: pn)) e de) (hb : attributeBase e n X.env (eval e X.env) = eval e X.env := by rfl) : RE (X.suite a ((a, oe) :: pn)) (.Attribute e n pos) (dXf a cls d C n de) :=
  pe_imp (pe_xf T hno hz hf he hb) fun σ H Q ⟨E, M, Q', sl, rm, h, k⟩ => ⟨E, M, _, sl, rm, h, fun v H1 dv M1 t1 rm1 r1 q1 => by
    obtain ⟨rfl, hcl, dd, fs, u, hd, hm, hl, q⟩ := q1
    obtain ⟨gs, hH, rf⟩ := rm1 dd _ hm
    obtain ⟨y, hy, ry⟩ := rf.lookup hl
    exact ⟨r1.inv_ref, hcl, dd, gs, y, hd, hH, hy, k _ _ _ _ t1 rm1 ry q⟩⟩
end DH

set_option Elab.async false
set_option linter.all false
set_option autoImplicit false
set_option maxRecDepth 100000
set_option maxHeartbeats 4000000
/-! Deep readings: isinstance of a caught exception that has a dict. -/
namespace DH
open PySem PySem.Spec PyProof.Rows PySem.Calls PySem.W L2
section
variable {prog : Program} {w : World} {A : Around} {E : Value → Shared → Prop} {K : Frag}
/-- `__class__` of an exception with a dict -/
theorem exc_class {z D : Addr} {oz od : Obj} {S : Shared} {Q : Option Value → Shared → Prop} (c : ExcC K D) (kin : K.In S.heap) (at_ : InstAt S.heap z oz D (some od)) (done : Q (some (.ref D)) { S with toks := S.toks + 1 }) :
    wpAny (model prog w) A (getAttr? (.ref z) "__class__") Q E S := by
  have cls : (clsIn K D).isSome = true := by
    obtain ⟨cd, q, _⟩ := any_some c.hd
    rw [q]; rfl
  have fo : findObj K D (some od) "__class__" = _ := findObj_data cls c.ha c.hn c.ht
  obtain ⟨hh, gg, dd, tt, oo⟩ := S
  have tyL := at_.type (M := model prog w)
  have gaL := looks_findIn (M := model prog w) kin c.hg
  have gtL := looks_findIn (M := model prog w) kin c.hk
  have foL := looks_find (M := model prog w) kin at_ fo
  have isE : Looks (model prog w) hh (isInstance (.ref z) (.type "BaseException")) true := tyL.andThen (looks_subIn kin c.hs)
  have b2 : (Value.builtin "BaseException.__getattribute__" == Value.builtin "object.__getattribute__") = false := by decide +kernel
  have b1 : (onTheHeap (Value.ref D) && Value.builtin "BaseException.__getattribute__" == Value.builtin "object.__getattribute__") = false := by
    rw [b2]; rfl
  unfold getAttr? getAttrBy? getAttrBy
  refine wpAny_bind (wpAny_mkText ?_)
  refine wpAny_bind (wpAny_attempt (wpAny_holding ?_))
  refine wpAny_bind (tyL.at (wpAny_bind (gaL.at ?_)))
  show wpAny _ _ (if (onTheHeap (Value.ref D) && Value.builtin "BaseException.__getattribute__" == Value.builtin "object.__getattribute__") = true then _ else _) _ _ _
  rw [b1, if_neg Bool.false_ne_true]
  unfold getAttrByItsOwn hookBefore
  refine wpAny_bind ?_
  have onH : onTheHeap (Value.ref D) = true := rfl
  rw [if_pos onH]
  refine gtL.at (wpAny_bind (wpAny_attempt (wpAny_holding ?_)))
  unfold callGetattribute
  rw [show (false && onTheHeap (Value.builtin "BaseException.__getattribute__")) = false from rfl, if_neg Bool.false_ne_true]
  unfold boundAndCalled
  rw [PySem.F.excAttr_ValueError.ga.bind (.ref z)]
  refine wpAny_bind (wpAny_pure ?_)
  show wpAny _ _ (call (.builtin "BaseException.__getattribute__") [.ref z, .str "__class__" tt]) _ _ _
  refine wpAny_call ?_
  refine codeAny_call_builtin PySem.F.excAttr_ValueError.ga.plain PySem.F.entry_bexc_ga ?_
  have ar := PySem.F.args_bexc_ga (.ref z) (.str "__class__" tt)
  refine @check_slot (model prog w) _ _ ⟨hh, gg, dd, tt + 1, oo⟩
    "BaseException.__getattribute__" "BaseException" "__getattribute__"
    (.ref z) [.str "__class__" tt] [] _ (by decide +kernel)
    (by decide +kernel) isE ar ?_
  unfold Builtin.«object.__getattribute__»
  refine wpAny_bind (wpAny_of_eq (a := ((Value.ref z : Value), [Value.str "__class__" tt])) (by first | rfl | (simp only [slotArgs]; rfl)) ?_)
  refine wpAny_bind (wpAny_pure ?_)
  refine wpAny_bind (tyL.at (wpAny_bind (foL.at ?_)))
  show wpAny _ _ (holding [Value.builtin "object.__class__"] (call (.builtin "getset_descriptor.__get__") [.builtin "object.__class__", .ref z, .ref D]) >>= ret) _ _ _
  refine wpAny_bind (wpAny_holding (wpAny_call ?_))
  refine class_get (s := ⟨hh, gg, dd, tt + 1, oo⟩) (ox := oz) (od := some od) kin at_ c.hm (wpAny_pure ?_)
  show wpAny _ _ (handedOut (.ref D)) _ _ _
  rw [handedOut_of (v := .ref D) rfl]
  first
    | exact wpAny_pure (wpAny_pure done)
    | exact wpAny_pure done
    | exact wpAny_pure (wpAny_bind (wpAny_pure (wpAny_pure done)))
end
end DH

set_option Elab.async false
set_option linter.all false
set_option autoImplicit false
set_option maxRecDepth 100000
set_option maxHeartbeats 4000000
/-! Deep readings: isinstance of a caught exception that has a dict, the rule. -/
namespace DH
open PySem PySem.Spec PyProof.Rows PySem.Calls PySem.W L2
section
variable {K : Frag}
theorem exc_obj_at {D : Addr} (c : ExcC K D) : ∃ o cd, K.lookup D = some o ∧ o.data = .cls cd := by
  obtain ⟨cd, q, _⟩ := any_some c.hd
  unfold clsIn at q
  split at q
  · rename_i e
    exact ⟨_, _, e, rfl⟩
  · cases q
/-- what is told of e, by its class -/
theorem exc_kit {z D : Addr} {oz od : Obj} (c : ExcC K D) : KitX K (.ref z) (.ref D) (fun h => InstAt h z oz D (some od)) where
  ty := fun M h _ at_ => at_.type
  it := fun M h kin _ => by
    obtain ⟨o, cd, e, ed⟩ := exc_obj_at c
    intro A Q E s keep q
    unfold isType loadHead
    refine wpAny_bind (wpAny_loadPart (keep _ _ (kin _ _ e)) (wpAny_pure ?_))
    rw [ed]
    exact q
  ne := fun h tp dd its n sl kin htp => by
    obtain ⟨o, cd, e, ed⟩ := exc_obj_at c
    cases hq : (Value.ref D == Value.ref tp) with
    | false => rfl
    | true =>
      have same : D = tp := Value.ref.inj (eq_of_beq hq)
      rw [same] at e
      have two := kin _ _ e
      rw [htp] at two
      cases two
      cases ed
  ca := fun kin at_ done => exc_class c kin at_ done
end
/-- isinstance(e, c) by values, e caught, of class D, its dict at dd -/
def rIsX (K : Frag) (D a : Addr) (dd : Option Addr) : List V → Hp → VK → Prop := fun xs H Q => ∃ (c : V) (cv : Value) (b : Bool) (d : Addr) (fs : List (Str × V)), xs = [.ref a, c] ∧ (∀ u, RelV c u → u = cv) ∧ kitOne K (.ref D) cv = some b ∧ dd = some d ∧ H d = some (.xd fs) ∧ Q (.bl b) H
theorem call_isX {X : Cx} {a D : Addr} {oe : Obj} {dd : Option Addr} {pn : List (Addr × Obj)} (c : ExcC X.K D) (hz : Zc (.ref D) dd oe) (hf : ∃ vs, oe.data = .fields vs) : CallR (X.suite a ((a, oe) :: pn)) (.builtin "isinstance") (rIsX X.K D a dd) :=
  fun pins s σ H xs us Q I r h => by
    obtain ⟨v, cv, b, d, fs, rfl, hcv, hk, rfl, hd, q⟩ := h
    obtain ⟨u1, u2, rfl, r1, r2⟩ : ∃ u1 u2, us = [u1, u2] ∧ RelV (.ref a) u1 ∧ RelV v u2 := by
      cases r with
      | cons x y =>
        cases y with
        | cons x2 y2 => cases y2; exact ⟨_, _, rfl, x, x2⟩
    have e1 : u1 = Value.ref a := r1
    have e2 := hcv _ r2
    subst e1
    subst e2
    have got := (I.pin (a, oe) (List.mem_append_left _ List.mem_cons_self)).1
    obtain ⟨vs, hv⟩ := hf
    obtain ⟨mA, hns, _⟩ : ObjOk X.prog X.w H s.heap d (.xd fs) := I.hok d _ hd
    obtain ⟨od, ho, _⟩ := lookIn_ns hns
    have at_ : InstAt s.heap a oe D (some od) := ⟨got, hz.1, by unfold notCls; rw [hv] <;> rfl, by rw [hz.2]; exact ho⟩
    exact kia_one (exc_kit c) I.kIn at_ hk (fun z => nomatch z) fun tk => ⟨.bl b, H, I.kept (t' := tk) fun _ _ z => z, rfl, q⟩
/-- isinstance(e, c), deep: e caught, of the class C -/
def dIsX (kit : Value → Option Bool) (a : Addr) (cls : Value) (dd : Option Addr) (C : Addr) (de : DE) : DE := fun E M Q => cls = .ref C ∧ de E M fun x M1 => x = .ref a ∧ ∃ (d : Addr) (fs : List (Str × DH.D)) (b : Bool), dd = some d ∧ M1 d = some (.xd fs) ∧ kit (.ref C) = some b ∧ Q (.bl b) M1
theorem re_isX {X : Cx} {a C : Addr} {oe : Obj} {cls : Value} {dd : Option Addr} {pn : List (Addr × Obj)} {e c1 : Expr} {de : DE} {p pos : Pos} {u : V} {cv : Value} (c : ExcC X.K C) (hz : Zc cls dd oe) (hf : ∃ vs, oe.data = .fields vs)
    (he : RE (X.suite a ((a, oe) :: pn)) e de) (hc : PE (X.suite a ((a, oe) :: pn)) c1 (tC u)) (hcv : ∀ y, RelV u y → y = cv) (hg : Gl (X.suite a ((a, oe) :: pn)) "isinstance") (hm : X.mg "isinstance" = none)
    (h1 : starEach [e, c1] X.env = (false, eval e X.env) :: starEach [c1] X.env := by rfl) (h2 : starEach [c1] X.env = (false, eval c1 X.env) :: starEach [] X.env := by rfl) (hpl : (backTo pos (starEach [c1] X.env)).any (·.1) = false := by rfl) :
    RE (X.suite a ((a, oe) :: pn)) (.Call (.Name "isinstance" p) [e, c1] [] pos) (dIsX (fun t => kitOne X.K t cv) a cls dd C de) := by
  by_cases hcls : cls = .ref C
  · subst hcls
    refine pe_imp (pe_callB (call_isX c hz hf) hg hm boot_isinstance (pa_cons he (pa_cons hc pa_nil h2) h1) (by decide) (by decide) h1 hpl) fun σ H Q hh => ?_
    obtain ⟨E, M, Q', sl, rm, h, k⟩ := hh
    refine ⟨E, M, _, sl, rm, h.2, fun v H1 d0 M1 t1 rm1 r1 q1 => ?_⟩
    obtain ⟨rfl, d, fs, b, rfl, hd, hk, q⟩ := q1
    obtain ⟨gs, hH, rf⟩ := rm1 d _ hd
    exact ⟨u, cv, b, d, gs, by rw [r1.inv_ref], hcv, hk, rfl, hH, (k.tx t1).now rm1 (.bl _) q⟩
  · exact ⟨fun pins s σ H Q I hh => by
      obtain ⟨E, M, Q', sl, rm, h, k⟩ := hh
      exact absurd h.1 hcls⟩
/-! ### a class whose __init__ may raise -/
structure CalIX (P : Program) (w : World) (K : PySem.W.Frag) (mg : Str → Option Value) (base : Heap) (k : Nat) (x : Str) (C : Addr) (ps : List Str) (sp : DSp) : Prop where
  ex : ∃ f fd, FnOk P w K mg base (L2.CX P w) k f fd ps (spD K w sp) ∧ Mk K C f ∧ mg x = some (.ref C) ∧ Binds K fd ps []
theorem CalIX.mono {P : Program} {w : World} {K : PySem.W.Frag} {mg : Str → Option Value} {base : Heap} {j k : Nat} {x : Str} {C : Addr} {ps : List Str} {sp : DSp} (c : CalIX P w K mg base j x C ps sp) (h : j ≤ k) : CalIX P w K mg base k x C ps sp :=
  let ⟨f, fd, F, r⟩ := c.ex; ⟨f, fd, F.mono h, r⟩
end DH

set_option Elab.async false
set_option linter.all false
set_option autoImplicit false
set_option maxRecDepth 100000
set_option maxHeartbeats 4000000
/-! Deep readings: a class whose __init__ may raise, the rules; __init__ of own exceptions. -/
namespace DH
open PySem PySem.Spec PyProof.Rows L2
section
variable {X : Cx} {pos cpos p : Pos} {k : Nat} {x : Str} {C : Addr} {ps : List Str} {sp : DSp} {e : Expr} {es : List Expr} {da : DA}
end
/-! ### the __init__ of an own exception: Base.__init__(self, text), self.f = x -/
abbrev rStrAdd : R2 := fun x y H Q => ∃ i j, x = .str i ∧ y = .str j ∧ i.length + j.length ≤ sizeLine ∧ Q (.str (i ++ j)) H
abbrev tStr1 : TE := tCB (fun xs H Q => ∃ i, xs = [.int i] ∧ i.natAbs.log2 < 1920 ∧ Q (.str (toString i)) H) (tCons (tVar 1) tNil)
def tExcInt (K : PySem.W.Frag) (msg f : Str) : TS := tSeq (tDrop (tVeI K (tCons (tVar 0) (tCons (tOp rStrAdd (tC (.str msg)) tStr1) tNil)))) (tOst K f (tVar 0) (tVar 1))
def okNat (v : V) : Prop := ∃ n : Nat, v = .int n ∧ n ≤ 1000
def okNatD (d : D) : Prop := ∃ n : Nat, d = .int n ∧ n ≤ 1000
theorem okNat_rep {K : PySem.W.Frag} {w : World} (H : Hp) (d : D) (v : V) (r : Rep K w H d v) (h : okNatD d) : okNat v := by
  obtain ⟨i, rfl, hl⟩ := h
  exact ⟨i, r.inv_int, hl⟩
theorem str_short : ∀ n : Fin 1001, (((toString ((n.1 : Nat) : Int)) : String) : Str).length ≤ 10 := by decide +kernel
theorem exc_pure {K : PySem.W.Frag} {C : Addr} {msg f a1 a2 : Str} (hm : msg.length ≤ 1000) (vs : List V) (H : Hp) (Q : VK) (E : XK) (h : spExc K C f okNat vs H Q E) : tExcInt K msg f { nx := fun _ H' => Q .non H', rt := Q } (start [a1, a2] vs) H := by
  obtain ⟨a, v, rfl, ⟨n, rfl, hn⟩, T, no, ha, q⟩ := h
  have hs := str_short ⟨n, by omega⟩
  have hlog : ((n : Int).natAbs).log2 < 1920 := by
    rw [Int.natAbs_natCast]
    have := Nat.log2_le_self n
    omega
  refine ⟨V.ref a, rfl, V.int n, rfl, n, rfl, hlog, _, _, rfl, rfl, ?_, a, C, _, rfl, by show 1 ≤ 1000; decide, T, ha, ?_⟩
  · exact Nat.le_of_lt (Nat.lt_of_le_of_lt (Nat.add_le_add hm hs) (by decide))
  · exact ⟨_, rfl, _, rfl, a, C, rfl, T, no, .inl ⟨ha, fun dx hdx hne => q dx hdx hne⟩⟩
theorem exc_mk {P : Program} {w : World} {K : PySem.W.Frag} {mg : Str → Option Value} {base : Heap} {x m qual : Str} {st : Stmt} {C : Addr} {fd : FuncData} {a1 a2 msg f : Str} {k : Nat} (hm : msg.length ≤ 1000) (e : ExcF K C f)
    (F : FunD K m qual (defArgs st) (defBody st) (defScope st) [] [] (He.ma K C "__init__") fd) (S : FnScope [a1, a2] [a1, a2] (defScope st)) (bd : ∀ (kV doc pm : Value) (an : Option Addr) (cdv ct : Value) (us : List Value), us.length = 2 → bindArgs (PySem.W.fnOf m qual (defArgs st) (defBody st) (defScope st) .none kV doc pm an cdv ct) ⟨us, []⟩ = pure ([a1, a2].zip us))
    (hmg : mg x = some (.ref C))
    (hb : ∀ (cdv : Value) (A : Around) (outer : List Env) (s : Shared) (H : Hp) (E : XK), Room k (A.deeper (envOfC qual (defScope st) s.heap.objs.size (He.ma K C "__init__") cdv)) → PSs (cxOf CX0 P w K mg base [a1, a2] qual (defScope st) (He.ma K C "__init__") cdv A outer s H E).nox (defBody st) (tExcInt K msg f)) : CalE P w K mg base (k + 1) x C f okNat := by
  refine ⟨_, fd, [a1, a2], F.ok S (fun vs H Q E h => ?_) (fun cdv A outer s H vs Q E hr h => ⟨_, (hb cdv A outer s H E hr).nox, exc_pure hm vs H Q E h⟩), e.init, e.ty, F.bindsN bd, hmg, e.T, e.no⟩
  obtain ⟨a, v, rfl, _⟩ := h
  rfl
end DH

set_option Elab.async false
set_option linter.all false
set_option autoImplicit false
set_option maxRecDepth 100000
set_option maxHeartbeats 2000000
/-! Deep readings: facts of caught exceptions, from the head. -/
namespace DH
open PySem PySem.Spec PyProof.Rows L2
def exccB (K : PySem.W.Frag) (D : Addr) : Bool := He.eqO (PySem.W.findIn K (.ref D) "__getattribute__") (some (some (.builtin "BaseException.__getattribute__"))) && (He.eqO (PySem.W.findIn K (.ref D) "__getattr__") (some none) && (decide (PySem.W.subIn K (.ref D) (.type "BaseException") = some true) && (PySem.W.hasDictIn K D &&
  (He.eqO (PySem.W.findIn K (.ref D) "__class__") (some (some (.builtin "object.__class__"))) && (He.eqO (PySem.W.specialIn K (.builtin "object.__class__") "__get__") (some (some (.builtin "getset_descriptor.__get__"))) && (decide (PySem.W.takesIn K (.builtin "object.__class__") = some true) && decide (PySem.W.mroIn K D (.type "object") = some true)))))))
theorem exccB_ok {K : PySem.W.Frag} {D : Addr} (h : exccB K D = true) : ExcC K D := by
  unfold exccB at h
  simp only [Bool.and_eq_true, decide_eq_true_eq] at h
  obtain ⟨h1, h2, h3, h4, h5, h6, h7, h8⟩ := h
  exact ⟨He.eqO_ok h1, He.eqO_ok h2, h3, h4, He.eqO_ok h5, He.eqO_ok h6, h7, h8⟩
/-- all that is asked of an exception class that is caught -/
structure XcF (K : PySem.W.Frag) (C : Addr) (f : Str) : Prop where
  xf : XfC K C
  ec : ExcC K C
  no : PySem.W.findIn K (.ref C) f = some none
def xcB (K : PySem.W.Frag) (C : Addr) (f : Str) : Bool := xfB K C && (exccB K C && He.eqO (PySem.W.findIn K (.ref C) f) (some none))
theorem xcB_ok {K : PySem.W.Frag} {C : Addr} {f : Str} (h : xcB K C f = true) : XcF K C f := by
  unfold xcB at h
  simp only [Bool.and_eq_true] at h
  obtain ⟨h1, h2, h3⟩ := h
  exact ⟨xfB_ok h1, exccB_ok h2, He.eqO_ok h3⟩
/-! ### a Hook that sees the interpreter's own statics too -/
def asY (g : Addr → Option Obj) (n : Nat) : List Addr := He.asD g n ++ [cStatics]
def obsY (n : Nat) (fa : List He.Fa) (fn : List He.DefD) (ts : List He.Tab) (ex : PySem.W.Frag → Bool) (g : Addr → Option Obj) : He.AlX := (He.obsT fa fn ts (He.frT g (asY g n)), ex (He.frT g (asY g n)))
def hookY (n : Nat) (fa : List He.Fa) (fn : List He.DefD) (ts : List He.Tab) (ex : PySem.W.Frag → Bool) : PySem.W.Hook where
  α := He.AlX
  obs := fun s => obsY n fa fn ts ex s.heap.get?
  val := fun w => He.valX fn ts w
  says := fun w h => ∃ K : PySem.W.Frag, K.In h ∧ He.SaysX fa fn ts [] ex w h K
  of := fun w s e => ⟨_, He.frT_in, ⟨congrArg (fun z : He.AlX => z.1) e, congrArg (fun z : He.AlX => z.2) e, fun _ h => by simp at h, fun _ h => by simp at h, fun _ h => by simp at h⟩⟩
  keeps := fun _ _ _ ⟨K, hK, c⟩ k => ⟨K, PySem.W.Frag.In.keeps hK k, ⟨c.t, c.more, c.hd, c.out, fun p hp => k _ _ (c.empty p hp)⟩⟩
theorem obsY_eq {n : Nat} {fa : List He.Fa} {fn : List He.DefD} {ts : List He.Tab} {ex : PySem.W.Frag → Bool} {g : Addr → Option Obj} {s : Shared} (h : ∀ a, g a = s.heap.get? a) : obsY n fa fn ts ex g = (hookY n fa fn ts ex).obs s := by
  have e : g = s.heap.get? := funext h
  rw [e] <;> rfl
def oB (o : Option Bool) (b : Bool) : Bool := decide (o = some b)
theorem oB_ok {o : Option Bool} {b : Bool} (h : oB o b = true) : o = some b := of_decide_eq_true h
end DH

set_option Elab.async false
set_option linter.all false
set_option autoImplicit false
set_option maxRecDepth 100000
set_option maxHeartbeats 2000000
/-! Deep readings: is, methods, all, calls that may raise (of any kind), exceptions with a text. -/
namespace DH
open PySem PySem.Spec PyProof.Rows L2
/-! ### is, is not -/
def nonD : D → Bool
  | .non => true
  | _ => false
def oIs (neg : Bool) : D2 := fun x y M Q => match y with
  | .non => Q (.bl (if neg then !nonD x else nonD x)) M
  | .bl b => ∃ a, x = .bl a ∧ Q (.bl (if neg then !decide (a = b) else decide (a = b))) M
  | _ => False
def rIsA (neg : Bool) : R2 := fun x y H Q => (y = .non ∧ Q (.bl (if neg then !decide (x = .non) else decide (x = .non))) H) ∨ ∃ a b : Bool, x = .bl a ∧ y = .bl b ∧ Q (.bl (if neg then !decide (a = b) else decide (a = b))) H
theorem op_isA {X : Cx} : OpR X (compareOp .Is) (rIsA false) := OpR.or op_isN op_isBl
theorem op_isnotA {X : Cx} : OpR X (compareOp .IsNot) (rIsA true) := OpR.or op_notN op_notBl
theorem non_rep {K : PySem.W.Frag} {w : World} {H : Hp} {d : D} {v : V} (r : Rep K w H d v) : decide (v = .non) = nonD d := by
  cases r <;> simp [nonD]
theorem rr_is {K : PySem.W.Frag} {w : World} {neg : Bool} : R2R K w (rIsA neg) (oIs neg) := fun dx dy M Q' x y H Q rm rx ry h k => by
  unfold oIs at h
  split at h
  · exact .inl ⟨ry.inv_non, by rw [non_rep rx]; exact k.now rm (.bl _) h⟩
  · obtain ⟨a, rfl, q⟩ := h
    exact .inr ⟨a, _, rx.inv_bl, ry.inv_bl, k.now rm (.bl _) q⟩
  · exact h.elim
/-! ### methods -/
structure CalM (P : Program) (w : World) (K : PySem.W.Frag) (mg : Str → Option Value) (base : Heap) (k : Nat) (C : Addr) (m : Str) (ps : List Str) (sp : DSp) : Prop where
  ex : ∃ f fd, FnOk P w K mg base CX0 k f fd ps (spD K w sp) ∧ Cls K C ∧ Meth K C m f ∧ Binds K fd ps []
theorem CalM.mono {P : Program} {w : World} {K : PySem.W.Frag} {mg : Str → Option Value} {base : Heap} {j k : Nat} {C : Addr} {m : Str} {ps : List Str} {sp : DSp} (c : CalM P w K mg base j C m ps sp) (h : j ≤ k) : CalM P w K mg base k C m ps sp :=
  let ⟨f, fd, F, r⟩ := c.ex; ⟨f, fd, F.mono h, r⟩
structure CalMX (P : Program) (w : World) (K : PySem.W.Frag) (mg : Str → Option Value) (base : Heap) (k : Nat) (C : Addr) (m : Str) (ps : List Str) (sp : DSp) : Prop where
  ex : ∃ f fd, FnOk P w K mg base (L2.CX P w) k f fd ps (spD K w sp) ∧ Cls K C ∧ Meth K C m f ∧ Binds K fd ps []
theorem CalMX.mono {P : Program} {w : World} {K : PySem.W.Frag} {mg : Str → Option Value} {base : Heap} {j k : Nat} {C : Addr} {m : Str} {ps : List Str} {sp : DSp} (c : CalMX P w K mg base j C m ps sp) (h : j ≤ k) : CalMX P w K mg base k C m ps sp :=
  let ⟨f, fd, F, r⟩ := c.ex; ⟨f, fd, F.mono h, r⟩
def dMeth (C : Addr) (m : Str) (sp : DSp) (do_ : DE) (da : DA) : DE := fun E M Q => do_ E M fun x M1 => ∃ a fs, x = .ref a ∧ M1 a = some (.ins C fs) ∧ fs.lookup m = none ∧ da E M1 fun ds M2 => sp (.ref a :: ds) M2 Q EX0
/-- an expression that may raise: what is wanted of its value, of an exception -/
abbrev DXE := DEnv → Mm → DQ → DX → Prop
def dCallX (sp : DSp) (da : DA) : DXE := fun E M Q Ex => da E M fun ds M1 => sp ds M1 Q Ex
def txD (K : PySem.W.Frag) (w : World) (W : WX) (dx : DXE) : TE := fun σ H Q => ∃ E M Q' Ex, Sl K w H σ E ∧ Rm K w H M ∧ dx E M Q' Ex ∧ Kc K w H Q' Q ∧ ∀ cls d H' M', Tx K H H' → Rm K w H' M' → Ex cls d M' → W cls d σ H'
abbrev RX (X : Cx) (e : Expr) (dx : DXE) : Prop := ∀ W : WX, L2.Takes X W → PE X e (txD X.K X.w W dx)
def dAsgR (dx : DXE) (i : Nat) : DS := fun D E M => dx E M (fun d M2 => D.nx (E.set i (some d)) M2) (fun cls d M2 => D.xc cls d E M2)
def dDropR (dx : DXE) : DS := fun D E M => dx E M (fun _ M2 => D.nx E M2) (fun cls d M2 => D.xc cls d E M2)
def dRetR (dx : DXE) : DS := fun D E M => dx E M D.rt (fun cls d M2 => D.xc cls d E M2)
section
variable {X : Cx} {pos cpos apos : Pos} {k : Nat} {x m : Str} {C : Addr} {ps : List Str} {sp : DSp} {p : Pos} {e o : Expr} {es : List Expr} {da : DA} {do_ : DE} {dx : DXE}
theorem re_meth {pl : Sem Bool} (c : CalM X.prog X.w X.K X.mg X.base k C m ps sp) (hr : Room k X.A) (ho : RE X o do_) (ha : RA X (e :: es) da)
    (hst : starEach (e :: es) X.env = (false, eval e X.env) :: starEach es X.env := by rfl) (hpl : (backTo pos (starEach es X.env)).any (·.1) = false := by rfl)
    (ht : eval (.Call (.Attribute o m apos) (e :: es) [] pos) X.env = (do
      let ov ← eval o X.env
      standAt apos.atName
      let (f, first) ← holding [ov] (getMethod ov m pl)
      callWith pos f first (backTo pos (starEach (e :: es) X.env)) (backToKw pos (keywordEach [] X.env))) := by rfl) : RE X (.Call (.Attribute o m apos) (e :: es) [] pos) (dMeth C m sp do_ da) := by
  obtain ⟨f, fd, F, cC, cM, hb⟩ := c.ex
  refine pe_imp (pe_meth (pl := pl) ho cC cM F hr hb .nil pass0 ha hst hpl ht) fun σ H Q ⟨E, M, Q', sl, rm, h, kc⟩ => ⟨E, M, _, sl, rm, h, fun v H1 d M1 t1 rm1 r1 g => ?_⟩
  obtain ⟨a, fs, rfl, ea, l, q⟩ := g
  obtain ⟨dd, gs, e1, rf⟩ := rm1 a _ ea
  refine ⟨a, dd, gs, r1.inv_ref, e1, rf.lookup_none l, E, M1, _, sl.mono t1, rm1, q, fun vs H2 ds M2 t2 rm2 r2 q2 => ?_⟩
  show spD X.K X.w sp (v :: (vs ++ [])) H2 Q _
  rw [List.append_nil, r1.inv_ref]
  exact ⟨_, M2, Q', EX0, .cons (.ref a) r2, rm2, q2, kc.tx (t1.trans t2), fun _ _ _ _ _ _ z => z.elim⟩
theorem rx_call (c : CalX X.prog X.w X.K X.mg X.base k x ps sp) (hr : Room k X.A) (ha : RA X (e :: es) da) (hg : Gl X x := by rfl) (hdb : (x == ("__debug__" : Str)) = false := by decide)
    (he : starEach (e :: es) X.env = (false, eval e X.env) :: starEach es X.env := by rfl) (hpl : (backTo cpos (starEach es X.env)).any (·.1) = false := by rfl) : RX X (.Call (.Name x p) (e :: es) [] cpos) (dCallX sp da) := fun W tk =>
  pe_imp (pe_calX c hr tk ha hg hdb he hpl) fun σ H Q ⟨E, M, Q', Ex, sl, rm, h, kc, kx⟩ => ⟨E, M, _, sl, rm, h, fun vs H1 ds M1 t1 rm1 r1 q1 => ⟨ds, M1, Q', Ex, r1, rm1, q1, kc.tx t1, fun cls d H' M' t2 rm2 z => kx cls d H' M' (t1.trans t2) rm2 z⟩⟩
theorem rs_asgR {i : Nat} {y : Str} {pos' : Pos} (hN : X.N.Nodup) (hi : X.N[i]? = some y) (hy : Loc X.env.scope y) (he : RX X e dx) (hs : swapsWith e (some (.Name y pos')) pos.line X.env = pure false := by rfl)
    (hf : X.fn y = true ∨ X.env.scope.names.lookup y = some .local := by first | exact .inl rfl | exact .inr rfl | assumption) : RS X (.Assign [.Name y pos'] e pos) (dAsgR dx i) := fun W tk =>
  ps_imp (ps_set hN hi hy (he W tk) hs hf) fun D σ H ⟨E, M, D', sl, rm, h, kn⟩ => ⟨E, M, _, _, sl, rm, h, fun v H2 d M2 t2 rm2 r2 q2 =>
    (ptg_name (pos := pos') (pg_name hN hi hy hf)).to d E (fun E' => D'.nx E' M2) v σ H2 _ q2 (sl.mono t2) r2 fun E' xs sl' q => kn.nx _ _ _ _ t2 sl' rm2 q,
    fun cls d H2 M2 t2 rm2 q2 => kn.xc cls d σ H2 E M2 t2 (sl.mono t2) rm2 q2⟩
theorem rs_dropR (he : RX X e dx) (hs : swapsWith e none pos.line X.env = pure false := by rfl) : RS X (.Expr e pos) (dDropR dx) := fun W tk =>
  ps_imp (ps_expr (he W tk) hs) fun D σ H ⟨E, M, D', sl, rm, h, kn⟩ => ⟨E, M, _, _, sl, rm, h, fun v H2 d M2 t2 rm2 r2 q2 => kn.nx _ _ _ _ t2 (sl.mono t2) rm2 q2,
    fun cls d H2 M2 t2 rm2 q2 => kn.xc cls d σ H2 E M2 t2 (sl.mono t2) rm2 q2⟩
theorem rs_retR (he : RX X e dx) : RS X (.Return (some e) pos) (dRetR dx) := fun W tk =>
  ps_imp (ps_ret (he W tk)) fun D σ H ⟨E, M, D', sl, rm, h, kn⟩ => ⟨E, M, _, _, sl, rm, h, fun v H2 d M2 t2 rm2 r2 q2 => kn.rt _ _ _ _ t2 rm2 r2 q2,
    fun cls d H2 M2 t2 rm2 q2 => kn.xc cls d σ H2 E M2 t2 (sl.mono t2) rm2 q2⟩
end
/-- a method's rule -/
theorem calm_mk {P : Program} {w : World} {K : PySem.W.Frag} {mg : Str → Option Value} {base : Heap} {m qual : Str} {st : Stmt} {C f : Addr} {fd : FuncData} {N ps : List Str} {k : Nat} {sp : DSp} {b : DS}
    (F : FunD K m qual (defArgs st) (defBody st) (defScope st) [] [] f fd) (cC : Cls K C) (cM : Meth K C m f) (S : FnScope N ps (defScope st)) (bd : ∀ (kV doc pm : Value) (an : Option Addr) (cdv ct : Value) (us : List Value), us.length = ps.length → bindArgs (PySem.W.fnOf m qual (defArgs st) (defBody st) (defScope st) .none kV doc pm an cdv ct) ⟨us, []⟩ = pure (ps.zip us))
    (hb : ∀ (cdv : Value) (A : Around) (outer : List Env) (s : Shared) (H : Hp) (E : XK), Room k (A.deeper (envOfC qual (defScope st) s.heap.objs.size f cdv)) → RSs (Xf P w K mg base N qual (defScope st) f cdv A outer s H E) (defBody st) b)
    (len : ∀ ds M Q E, sp ds M Q E → ds.length = ps.length)
    (hq : ∀ ds M Q E, sp ds M Q E → b { nx := fun _ M' => Q .non M', rt := Q } (startD N.length ds) M) : CalM P w K mg base (k + 1) C m ps sp :=
  ⟨f, fd, fn_ok F S len hb hq, cC, cM, F.bindsN bd⟩
/-! ### all of a list of bools -/
def oAllL : DL := fun ds M Q => ∃ (a : Addr) (bs : List Bool), ds = [.ref a] ∧ IsL M a (bs.map D.bl) ∧ Q (.bl (bs.all id)) M
section
variable {K : PySem.W.Frag} {w : World} {H : Hp} {M : Mm}
theorem RepL.blsInv : ∀ {bs : List Bool} {xs : List V}, RepL K w H (bs.map D.bl) xs → xs = bs.map V.bl
  | [], _, .nil => rfl
  | _ :: _, _, .cons h t => by rw [h.inv_bl, RepL.blsInv t]; rfl
theorem IsL.bls {a : Addr} {bs : List Bool} (h : IsL M a (bs.map D.bl)) (rm : Rm K w H M) : SqL K H a (bs.map V.bl) := by
  obtain ⟨xs, s, l⟩ := h.sq rm
  rw [l.blsInv] at s; exact s
end
theorem rl_all {K : PySem.W.Frag} {w : World} : RLR K w (rAll K) oAllL := fun ds M Q' xs H Q rm rl h k => by
  obtain ⟨a, bs, rfl, l, q⟩ := h
  obtain ⟨v, rfl, r⟩ := rl.inv1
  exact ⟨a, bs, by rw [r.inv_ref], l.bls rm, k.now rm (.bl _) q⟩
/-! ### own exceptions with a text -/
end DH

set_option Elab.async false
set_option linter.all false
set_option autoImplicit false
set_option maxRecDepth 100000
set_option maxHeartbeats 4000000
/-! Deep readings: sorted(set(list)), starred displays, f-strings, reversed slices. -/
namespace DH
open PySem PySem.Spec PyProof.Rows L2
section
variable {P : Program} {w : World} {A : Around} {E : Value → Shared → Prop} {s : Shared}
set_option maxRecDepth 100000 in
set_option maxHeartbeats 3200000 in
theorem call_set_lstI {l : Addr} {items : Array Value} (ns : List Int) {Q : Value → Shared → Prop} (hh : A.handled = none) (hl : s.heap.IsList l items) (hit : IntsAre items.toList ns) (hb : ns.length + 1 < scanBound)
    (h : ∀ (h' : Heap) (tk c : Nat), SetR w h' s.heap.objs.size (fun j => decide (j ∈ ns)) c → c ≤ ns.length → (∀ b o, s.heap.get? b = some o → h'.get? b = some o) → Q (.ref s.heap.objs.size) { s with heap := h', toks := tk }) :
    wpAny (model P w) A (call (.type "set") [.ref l]) Q E s := by
  have hisz : items.size = ns.length := by
    have q := IntsAre.length hit
    rw [Array.length_toList] at q
    exact q
  obtain ⟨c, tl, hmro⟩ := F.called_set.mro
  have hmade := F.called_set.made
  have hsub := F.called_set.sub
  refine wpAny_call (codeAny_of_tree ?_)
  show wpAny _ _ (callAny (.type "set") _) _ _ _
  refine wpAny_pure ⟨Code.quiet_builtin _ (by decide +kernel), codeAny_builtin F.entry_type_call ?_⟩
  rw [Around.under_plain (weight_type_call_type "set" [.ref l] []) rfl]
  have h1 := F.called_set.notType
  have h2 := F.called_set.canCreate
  have hct := F.typeCall_set_1 (.ref l)
  repeat (any_goals (first | assumption | wp_step))

  refine codeAny_mono (code_set_led1 (.ref l) (E := E) (Q₁ := fun obj s₁ => obj = .ref s.heap.objs.size ∧ s₁ = { s with heap := s.heap.push { cls := .type "set", dict := none, data := .set #[] 0 (.fresh 0 0 (!w.params.followText "set-order")) } }) ⟨rfl, rfl⟩) fun r s₁ hr => ?_
  cases r with
  | error e => exact hr
  | ok fl =>
    cases fl with
    | ret obj =>
      obtain ⟨rfl, rfl⟩ := hr
      have hS : (s.heap.push { cls := .type "set", dict := none, data := .set #[] 0 (.fresh 0 0 (!w.params.followText "set-order")) }).get? s.heap.objs.size = some { cls := .type "set", dict := none, data := .set #[] 0 (.fresh 0 0 (!w.params.followText "set-order")) } := Heap.get?_push_size _ rfl
      have hT : Shared.TypeIs { s with heap := s.heap.push { cls := .type "set", dict := none, data := .set #[] 0 (.fresh 0 0 (!w.params.followText "set-order")) } } (.ref s.heap.objs.size) "set" := ⟨_, hS, rfl⟩
      have hli := F.called_set.init.lookup
      have hbi := F.called_set.init.bind (.ref s.heap.objs.size)
      repeat (any_goals (first | assumption | wp_step))

      refine codeAny_mono (codeAny_call_builtin (R := wants (fun r s₂ => r = .none ∧ ∃ h' tk c, s₂ = { s with heap := h', toks := tk } ∧ SetR w h' s.heap.objs.size (fun j => decide (j ∈ ns)) c ∧ c ≤ ns.length ∧
          (∀ b o, s.heap.get? b = some o → h'.get? b = some o)) E) F.called_set.init.plain F.entry_set_init (check_set_init_1 hT ?_)) fun r₂ s₂ hr₂ => ?_
      · obtain ⟨ol, hol, hcl, nl, hdl⟩ := hl
        obtain ⟨ocls, odict, odata, oslots⟩ := ol
        simp only at hcl hdl
        subst hcl; subst hdl
        have hol' : (s.heap.push { cls := .type "set", dict := none, data := .set #[] 0 (.fresh 0 0 (!w.params.followText "set-order")) }).get? l = some { cls := .type "list", dict := odict, data := .seq items nl, slots := oslots } := Heap.get?_push_of_some _ hol
        have hsls := F.sub_list_set
        have hslf := F.sub_list_frozenset
        have hne : (Value.type "list" == Value.type "dict") = false := by decide
        have hl1 : (s.heap.push { cls := .type "set", dict := none, data := .set #[] 0 (.fresh 0 0 (!w.params.followText "set-order")) }).IsList l items := ⟨_, hol', rfl, nl, rfl⟩
        unfold Builtin.«set.__init__» noKeywords Builtin.Frozenset.updateFrom
        generalize hPI : pyIter = PI
        wp_walk
        subst hPI

        refine wpAny_pyIter_list hl1 ?_
        refine wpAny_bind (wpAny_runValue ?_)
        have hlS : l < s.heap.objs.size := Heap.lt_size hol
        have hh3 : A.in1.in1.in1.handled = none := by simp [hh]
        have hz1 : (s.heap.push { cls := .type "set", dict := none, data := .set #[] 0 (.fresh 0 0 (!w.params.followText "set-order")) }).objs.size = s.heap.objs.size + 1 := Heap.size_push ..
        have hneI : l ≠ (s.heap.push { cls := .type "set", dict := none, data := .set #[] 0 (.fresh 0 0 (!w.params.followText "set-order")) }).objs.size := by
          rw [Heap.size_push]; exact Nat.ne_of_lt (Nat.lt_succ_of_lt hlS)
        have hSf : s.heap.objs.size ∉ [(s.heap.push { cls := .type "set", dict := none, data := .set #[] 0 (.fresh 0 0 (!w.params.followText "set-order")) }).objs.size, l] := by
          rw [Heap.size_push]; simp only [List.mem_cons, List.mem_singleton, List.not_mem_nil, or_false, not_or]
          exact ⟨Nat.ne_of_lt (Nat.lt_succ_self _), Nat.ne_of_gt hlS⟩
        have hval : ∀ (i : Nat) (v : Value), items[i]? = some v → ∃ k t, ns[i]? = some k ∧ v = .int k t := fun i v hv => by
          have hi : i < ns.length := by rw [← hisz]; exact (Array.getElem?_eq_some_iff.mp hv).1
          obtain ⟨t, e⟩ := PyProof.Rows.IntsAre.int_at hit i v (by rw [Array.getElem?_toList]; exact hv)
          refine ⟨ns[i], t, List.getElem?_eq_getElem hi, ?_⟩
          rw [e, List.getD_eq_getElem?_getD, List.getElem?_eq_getElem hi] <;> rfl
        refine set_update_ints ((Walks.list hh3 _ l hneI items).toS) s.heap.objs.size
          hSf ns hisz hb hval (items.size - 0) 0 _ (by omega) (Nat.zero_le _)
          ⟨⟨_, Heap.get?_push_size _ rfl, rfl, rfl⟩, (hl1.push _)⟩ ?hS0 ?hR
        case hS0 =>
          have hget : ((s.heap.push { cls := .type "set", dict := none, data := .set #[] 0 (.fresh 0 0 (!w.params.followText "set-order")) }).push { cls := .type "list_iterator", data := .fields #[.ref l, .int 0 0] }).get? s.heap.objs.size
              = some { cls := .type "set", dict := none, data := .set #[] 0 (.fresh 0 0 (!w.params.followText "set-order")) } := Heap.get?_push_of_some _ hS
          exact ⟨0, Nat.le_refl 0, setR_new_at hget⟩
        case hR =>
          intro s' c' hm hc' hS'
          obtain ⟨h', g2, d', tk', os'⟩ := s'
          have eg : g2 = s.gens := hm.gens
          have ed : d' = s.drawn := hm.drawn
          have eo : os' = s.os := hm.os
          subst eg; subst ed; subst eo
          show wpAny _ _ _ _ _ _
          refine wpAny_pure ?_
          show wpAny _ _ (ret Value.none) _ _ _
          rw [hisz] at hc'
          refine wpAny_pure ⟨rfl, h', tk', c', rfl, hS', hc', fun b o e => ?_⟩
          have hb0 : b < s.heap.objs.size := Heap.lt_size e
          have hb1 : b ≠ s.heap.objs.size := Nat.ne_of_lt hb0
          have hb2 : b ≠ (s.heap.push { cls := .type "set", dict := none, data := .set #[] 0 (.fresh 0 0 (!w.params.followText "set-order")) }).objs.size := by
            rw [Heap.size_push]; exact Nat.ne_of_lt (Nat.lt_succ_of_lt hb0)
          exact hm.heap b o (by simp only [List.mem_cons, List.mem_singleton, List.not_mem_nil, or_false, not_or]; exact ⟨hb1, hb2⟩) (Heap.get?_push_of_some _ (Heap.get?_push_of_some _ e))

      · cases r₂ with
        | error e => exact hr₂
        | ok fl₂ =>
          cases fl₂ with
          | ret r =>
            obtain ⟨rfl, h', tk, c', rfl, hS', hc', hk'⟩ := hr₂
            repeat (any_goals (first | assumption | wp_step))
            exact h _ _ _ hS' hc' hk'
          | _ => exact hr₂.elim
    | _ => exact hr.elim
end
end DH

set_option Elab.async false
set_option linter.all false
set_option autoImplicit false
set_option maxRecDepth 100000
set_option maxHeartbeats 4000000
/-! Deep readings: sorted(set(list)), starred displays, f-strings, reversed slices. -/
namespace DH
open PySem PySem.Spec PyProof.Rows L2 StX
theorem repL_ints {K : PySem.W.Frag} {w : World} {H : Hp} : ∀ ns : List Int, RepL K w H (ns.map D.int) (ns.map V.int)
  | [] => .nil
  | i :: ns => .cons (.int i) (repL_ints ns)
section
variable {X : Cx} {e : Expr} {es : List Expr} {de : DE} {dr : DA}
/-! ### sorted(set(list of numbers)) -/
def rSetL (K : PySem.W.Frag) (w : World) : List V → Hp → VK → Prop := fun xs H Q => ∃ (l : Addr) (ns : List Int), xs = [.ref l] ∧ SqL K H l (ns.map V.int) ∧ ns.length < 60 ∧ ∀ p c, H p = none → c ≤ ns.length → Q (.ref p) (upd H p (SetO w p (fun j => decide (j ∈ ns)) c))
theorem cr_setL (hc : X.calm = true) : CallR X (.type "set") (rSetL X.K X.w) := by
  intro pins s σ H xs us Q I r h
  obtain ⟨l, ns, rfl, hq, hl, q⟩ := h
  obtain ⟨its, rv, pl, hz⟩ := I.list hq
  rw [Vals.ref1 r]
  refine call_set_lstI ns (I.ok.hd hc) pl.isList (by simpa using ints_of_vals rv) (by unfold scanBound; omega) fun h' tk c hS hc' hk => ?_
  exact ⟨.ref s.heap.objs.size, _, I.laid (t' := tk) hk (Nat.le_refl _) (setO_new hS), rfl, q _ c (I.hok.fresh (Nat.le_refl _)) hc'⟩
def dSrtSet (de : DE) : DE := fun E M Q => de E M fun d M1 => ∃ (a : Addr) (ns : List Int), d = .ref a ∧ IsL M1 a (ns.map D.int) ∧ ns.length < 60 ∧ ∀ (ms : List Int) p, ms.Pairwise (· < ·) → (∀ k, k ∈ ms ↔ k ∈ ns) → M1 p = none → Q (.ref p) (updM M1 p (.lst (ms.map D.int)))
theorem re_srtSet {p p2 q pos : Pos} (hc : X.calm = true) (hg : Gl X "sorted") (hm : X.mg "sorted" = none) (hv : bootBuiltins "sorted" = some (.builtin "sorted")) (hg2 : Gl X "set") (hm2 : X.mg "set" = none) (hv2 : bootBuiltins "set" = some (.type "set")) (he : RE X e de)
    (h1 : starEach [e] X.env = (false, eval e X.env) :: starEach [] X.env := by rfl) (h2 : starEach [.Call (.Name "set" p2) [e] [] q] X.env = (false, eval (.Call (.Name "set" p2) [e] [] q) X.env) :: starEach [] X.env := by rfl) :
    RE X (.Call (.Name "sorted" p) [.Call (.Name "set" p2) [e] [] q] [] pos) (dSrtSet de) :=
  pe_imp (pe_callB (cr_sortedSet hc) hg hm hv (pa_cons (pe_callTy (cr_setL hc) hg2 hm2 hv2 (pa_cons he pa_nil h1) (he := h1)) pa_nil h2) (he := h2)) fun σ H Q ⟨E, M, Q', sl, rm, h, k⟩ => by
    refine ⟨E, M, _, sl, rm, h, fun v H1 d M1 t1 rm1 r1 q1 => ?_⟩
    obtain ⟨a, ns, rfl, hl, hlen, q2⟩ := q1
    refine ⟨a, ns, by rw [r1.inv_ref], hl.ints rm1, hlen, fun p c hp hcl => ⟨p, _, c, rfl, upd_same, by omega, fun ms p3 hs hm3 _ hp3 => ?_⟩⟩
    have t2 : Tx X.K H1 (upd H1 p (SetO X.w p (fun j => decide (j ∈ ns)) c)) := Tx.new hp
    have rm2 := rm1.keepNew (ho := SetO X.w p (fun j => decide (j ∈ ns)) c) hp
    have t3 : Tx X.K (upd H1 p (SetO X.w p (fun j => decide (j ∈ ns)) c)) (upd (upd H1 p (SetO X.w p (fun j => decide (j ∈ ns)) c)) p3 (.lst (ms.map V.int))) := Tx.new hp3
    have rm3 := rm2.upd (mo := .lst (ms.map D.int)) t3 ⟨_, upd_same, repL_ints ms⟩
    exact k _ _ _ _ ((t1.trans t2).trans t3) rm3 (.ref p3) (q2 ms p3 hs (fun z => by rw [hm3 z, decide_eq_true_eq]) (rm2.free hp3))
/-! ### [*a, *b] -/
def dStar (de : DE) (dr : DA) : DA := fun E M Q => de E M fun d M1 => ∃ ds, ((d = .tup ds) ∨ ∃ a, d = .ref a ∧ IsL M1 a ds) ∧ dr E M1 fun es M2 => Q (ds ++ es) M2
theorem ra_star {p : Pos} (he : RE X e de) (hr : RA X es dr) (hs : starEach (.Starred e p :: es) X.env = (true, eval e X.env) :: starEach es X.env := by rfl) : RA X (.Starred e p :: es) (dStar de dr) :=
  pa_imp (pa_star he hr hs) fun σ H Q ⟨E, M, Q', sl, rm, h, k⟩ => by
    refine ⟨E, M, _, sl, rm, h, fun v H1 d M1 t1 rm1 r1 q1 => ?_⟩
    obtain ⟨ds, hd, q2⟩ := q1
    have fin : ∀ (xs : List V), RepL X.K X.w H1 ds xs → taD X.K X.w dr σ H1 fun ys H2 => Q (xs ++ ys) H2 := fun xs l => ⟨E, M1, _, sl.mono t1, rm1, q2, fun vs H2 es2 M2 t2 rm2 r2 q3 => k _ _ _ _ (t1.trans t2) rm2 ((l.mono t2).append r2) q3⟩
    rcases hd with rfl | ⟨a, rfl, hl⟩
    · obtain ⟨b, xs, rfl, hq, l⟩ := r1.inv_tup
      exact ⟨b, xs, rfl, .inl hq, fin xs l⟩
    · obtain ⟨xs, hq, l⟩ := hl.sq rm1
      exact ⟨a, xs, r1.inv_ref, .inr hq, fin xs l⟩
/-! ### f'..{n}' -/
def dFs (z : Str) (de : DE) : DE := fun E M Q => de E M fun d M1 => ∃ i : Int, d = .int i ∧ i.natAbs.log2 < 1920 ∧ (z ++ toString i : Str).length ≤ sizeLine ∧ Q (.str (z ++ toString i)) M1
theorem re_fs {z : Str} {j p1 p2 pos} (he : RE X e de) (hz0 : z.length ≤ sizeLine := by decide) : RE X (.JoinedStr [.Constant (.str z) j p1, .FormattedValue e (-1) none p2] pos) (dFs z de) :=
  pe_imp (pe_joined (.cons pe_str (.cons (pe_fmt he) .nil))) fun σ H Q ⟨E, M, Q', sl, rm, h, k⟩ => by
    have e0 : (Str.empty ++ z : Str) = z := Str.empty_append z
    refine ⟨z, rfl, ?_, E, M, _, sl, rm, h, fun v H1 d M1 t1 rm1 r1 q1 => ?_⟩
    · rw [e0]; exact hz0
    · obtain ⟨i, rfl, hi, hz, q2⟩ := q1
      refine .inr ⟨i, r1.inv_int, hi, toString i, rfl, ?_, ?_⟩
      · rw [e0]; exact hz
      · rw [e0]; exact k _ _ _ _ t1 rm1 (.str _) q2
/-! ### l[::-1] -/
def dRevL (de : DE) : DE := fun E M Q => de E M fun d M1 => ∃ (a : Addr) (ds : List D), d = .ref a ∧ IsL M1 a ds ∧ ∀ p, M1 p = none → Q (.ref p) (updM M1 p (.lst ds.reverse))
theorem re_revL {k p1 p2 p3 pos} (he : RE X e de) : RE X (.Subscript e (.Slice none none (some (.UnaryOp .USub (.Constant (.int 1) k p1) p2)) p3) pos) (dRevL de) :=
  pe_imp (pe_revL he) fun σ H Q ⟨E, M, Q', sl, rm, h, k⟩ => by
    refine ⟨E, M, _, sl, rm, h, fun v H1 d M1 t1 rm1 r1 q1 => ?_⟩
    obtain ⟨a, ds, rfl, hl, q2⟩ := q1
    obtain ⟨xs, hq, l⟩ := hl.sq rm1
    refine ⟨a, xs, r1.inv_ref, hq, fun p hp => ?_⟩
    have t2 : Tx X.K H1 (upd H1 p (.lst xs.reverse)) := Tx.new hp
    exact k _ _ _ _ (t1.trans t2) (rm1.upd (mo := .lst ds.reverse) t2 ⟨_, upd_same, (l.reverse).mono t2⟩) (.ref p) (q2 p (rm1.free hp))
end
end DH

set_option Elab.async false
set_option linter.all false
set_option autoImplicit false
set_option maxRecDepth 100000
set_option maxHeartbeats 400000
/-! Deep readings: a target of a name and a row of names. -/
namespace DH
open PySem PySem.Spec PyProof.Rows L2
theorem dTg_nt {i : Nat} {is : List Nat} {d : D} {E : DEnv} {Q : DEnv → Prop} (h : dTg (.nt i is) d E Q) : ∃ d1 ds, d = .tup [d1, .tup ds] ∧ ds.length = is.length ∧ Q (setE (E.set i (some d1)) is ds) := by
  unfold dTg at h
  split at h
  · rename_i e; exact Tg.noConfusion e
  · rename_i e; exact Tg.noConfusion e
  · rename_i d1 ds e1
    injection e1 with e2 e3
    subst e2 e3
    exact ⟨_, _, rfl, h⟩
  · exact h.elim
section
variable {X : Cx} {pos : Pos}
theorem ptg_nt {es : List Expr} {x : Str} {i kk kk2 : Nat} {p1 pos2 : Pos} {is : List Nat} (hc : X.calm = true) (h1 : PG X (.Name x p1) (gName i)) (h : PGs X es (gNames is))
    (hn2 : (assignEach es X.env).length = is.length := by rfl) (hst2 : (assignEach es X.env).findIdx? (·.1) = none := by rfl)
    (hn : (assignEach [.Name x p1, .Tuple es kk2 pos2] X.env).length = 2 := by rfl) (hst : (assignEach [.Name x p1, .Tuple es kk2 pos2] X.env).findIdx? (·.1) = none := by rfl) :
    PTg X (.Tuple [.Name x p1, .Tuple es kk2 pos2] kk pos) (.nt i is) (gTup X.K 2 (gCons (gName i) (gCons (gTup X.K is.length (gNames is)) gNil))) := by
  refine ⟨pg_tup hc (pgs_cons h1 (pgs_cons (pg_tup hc h hn2 hst2) pgs_nil)) hn hst, fun d E Q v σ H P h sl r k => ?_⟩
  obtain ⟨d1, ds, rfl, hl, hq⟩ := dTg_nt h
  obtain ⟨a, xs, rfl, sq, l⟩ := r.inv_tup
  cases l with
  | @cons _ _ x1 _ r1 l =>
    cases l with
    | cons r2 l =>
      cases l
      obtain ⟨b, ys, rfl, sq2, l2⟩ := r2.inv_tup
      have hs : Sl X.K X.w H (setσ (σ.set i (some x1)) is ys) (setE (E.set i (some d1)) is ds) := Sl.sets l2 (sl.set r1 i)
      have hp : P (setσ (σ.set i (some x1)) is ys) H := k _ (x1 :: ys) hs hq
      exact ⟨a, _, rfl, sq, rfl, _, _, rfl, _, _, rfl, ⟨b, ys, rfl, sq2, l2.length.trans hl, gNames_to (l2.length.trans hl) ⟨rfl, hp⟩⟩⟩
end
end DH

set_option Elab.async false
set_option linter.all false
set_option autoImplicit false
set_option maxRecDepth 100000
set_option maxHeartbeats 400000
/-! Deep readings: isinstance of an own class's object. -/
namespace DH
open PySem PySem.Spec PyProof.Rows L2
/-- what isinstance asks of an object's own class -/
structure IsCF (K : PySem.W.Frag) (C : Addr) : Prop where
  cl : Cls K C
  ha : PySem.W.findIn K (.ref C) "__class__" = some (some (.builtin "object.__class__"))
  hn : PySem.W.specialIn K (.builtin "object.__class__") "__get__" = some (some (.builtin "getset_descriptor.__get__"))
  ht : PySem.W.takesIn K (.builtin "object.__class__") = some true
  hm : PySem.W.mroIn K C (.type "object") = some true
def isCB (K : PySem.W.Frag) (C : Addr) : Bool := He.eqO (PySem.W.findIn K (.ref C) "__class__") (some (some (.builtin "object.__class__"))) && (He.eqO (PySem.W.specialIn K (.builtin "object.__class__") "__get__") (some (some (.builtin "getset_descriptor.__get__"))) && (decide (PySem.W.takesIn K (.builtin "object.__class__") = some true) && decide (PySem.W.mroIn K C (.type "object") = some true)))
theorem isCB_ok {K : PySem.W.Frag} {C : Addr} (c : Cls K C) (h : isCB K C = true) : IsCF K C := by
  unfold isCB at h
  simp only [Bool.and_eq_true] at h
  obtain ⟨h1, h2, h3, h4⟩ := h
  exact ⟨c, He.eqO_ok h1, He.eqO_ok h2, of_decide_eq_true h3, of_decide_eq_true h4⟩
/-- of an object of cT itself: is it of cC? -/
def dIsC (kt : Value → Option Bool) (cT : Addr) (de : DE) : DE := fun E M Q => de E M fun d M1 => ∃ (a : Addr) (fs : List (Str × D)) (b : Bool), d = .ref a ∧ M1 a = some (.ins cT fs) ∧ kt (.ref cT) = some b ∧ Q (.bl b) M1
theorem re_isC {X : Cx} {e c : Expr} {de : DE} {cT cC : Addr} {p pos : Pos} (F : IsCF X.K cT) (he : RE X e de) (hc : PE X c (tC (.ref cC))) (hg : Gl X "isinstance") (hm : X.mg "isinstance" = none)
    (h1 : starEach [e, c] X.env = (false, eval e X.env) :: starEach [c] X.env := by rfl) (h2 : starEach [c] X.env = (false, eval c X.env) :: starEach [] X.env := by rfl) (hpl : (backTo pos (starEach [c] X.env)).any (·.1) = false := by rfl) :
    RE X (.Call (.Name "isinstance" p) [e, c] [] pos) (dIsC (fun t => PySem.W.kitOne X.K t (.ref cC)) cT de) :=
  pe_imp (pe_callB call_isi hg hm boot_isinstance (pa_cons he (pa_cons hc pa_nil h2) h1) (by decide) (by decide) h1 hpl) fun σ H Q ⟨E, M, Q', sl, rm, h, k⟩ => by
    refine ⟨E, M, _, sl, rm, h, fun v H1 d M1 t1 rm1 r1 q1 => ?_⟩
    obtain ⟨a, fs, b, rfl, hM, hk, q⟩ := q1
    obtain ⟨dx, gs, e1, _⟩ := rm1 _ _ hM
    rw [r1.inv_ref]
    exact ⟨.ref a, .ref cC, .ref cT, .ref cC, b, rfl, .own cC, .base (.ins e1 F.cl F.ha F.hn F.ht F.hm), hk, k _ _ _ _ t1 rm1 (.bl b) q⟩
/-! ### list(range(n)) -/
def natsD (n : Nat) : List D := (List.range n).map fun i : Nat => .int i
def dLstRg (de : DE) : DE := fun E M Q => de E M fun d M1 => ∃ n : Nat, d = .int n ∧ n ≤ 1000 ∧ ∀ p, M1 p = none → Q (.ref p) (updM M1 p (.lst (natsD n)))
theorem re_lstRg {X : Cx} {e : Expr} {de : DE} {p p2 q pos : Pos} (hc : X.calm = true) (he : RE X e de) (hg : Gl X "list") (hm : X.mg "list" = none) (hg2 : Gl X "range") (hm2 : X.mg "range" = none)
    (na : starEach [e] X.env = (false, eval e X.env) :: starEach [] X.env := by rfl) (nb : starEach [.Call (.Name "range" p2) [e] [] q] X.env = (false, eval (.Call (.Name "range" p2) [e] [] q) X.env) :: starEach [] X.env := by rfl) :
    RE X (.Call (.Name "list" p) [.Call (.Name "range" p2) [e] [] q] [] pos) (dLstRg de) :=
  pe_imp (pe_listRg hc hg hm (prg_1 hg2 hm2 he na) nb) fun σ H Q ⟨E, M, Q', sl, rm, h, k⟩ => by
    refine ⟨E, M, _, sl, rm, h, fun v H1 d M1 t1 rm1 r1 q1 => ?_⟩
    obtain ⟨n, rfl, hn, q⟩ := q1
    refine ⟨n, r1.inv_int, RgOk.of_le (by omega) (by omega) (by omega) (by omega), fun a ha => ?_⟩
    have t2 : Tx X.K H1 (upd H1 a (.lst (rgV 0 (n : Int)))) := Tx.new ha
    have hl : natsD n = ((List.range n).map fun i : Nat => (i : Int)).map D.int := by unfold natsD; rw [List.map_map]; rfl
    have hv : rgV 0 (n : Int) = ((List.range n).map fun i : Nat => (i : Int)).map V.int := by
      unfold rgV
      rw [List.map_map, show ((n : Int) - 0).toNat = n by omega]
      refine List.map_congr_left fun i _ => ?_
      show V.int (0 + (i : Int)) = V.int (i : Int)
      rw [Int.zero_add]
    have hr : RepL X.K X.w (upd H1 a (.lst (rgV 0 (n : Int)))) (natsD n) (rgV 0 (n : Int)) := by rw [hl, hv]; exact repL_ints _
    exact k _ _ _ _ (t1.trans t2) (rm1.upd (mo := .lst (natsD n)) t2 ⟨_, upd_same, hr⟩) (.ref a) (q a (rm1.free ha))
end DH

set_option Elab.async false
set_option linter.all false
set_option autoImplicit false
set_option maxRecDepth 100000
set_option maxHeartbeats 400000
/-! Deep readings: enumerate(list). -/
namespace DH
open PySem PySem.Spec PyProof.Rows L2
def enumD (xs : List D) : List D := xs.zipIdx.map fun p => .tup [.int (p.2 : Nat), p.1]
def dEnum (da : DA) : DI := fun E M Q => da E M fun ds M1 => ∃ a xs, ds = [.ref a] ∧ IsL M1 a xs ∧ Q (enumD xs) (fun M => IsL M a xs) M1
theorem enum_at {xs : List D} {i : Nat} {d : D} (h : (enumD xs)[i]? = some d) : ∃ x, xs[i]? = some x ∧ d = .tup [.int (i : Nat), x] := by
  unfold enumD at h
  rw [List.getElem?_map] at h
  obtain ⟨p, h1, h2⟩ := Option.map_eq_some_iff.mp h
  rw [List.getElem?_zipIdx] at h1
  obtain ⟨x, h3, h4⟩ := Option.map_eq_some_iff.mp h1
  subst h4
  exact ⟨x, h3, by rw [← h2]; simp⟩
theorem enum_len (xs : List D) : (enumD xs).length = xs.length := by unfold enumD; simp
theorem it_enum {K : PySem.W.Frag} {w : World} {H : Hp} {a : Addr} {ds : List D} : ItOk K w H (Ite K a) (enumD ds) (fun M => IsL M a ds) := fun i H' M t rm sa => by
  obtain ⟨xs, sx, lx⟩ := sa.sq rm
  refine ⟨fun d e => ?_, fun e => ⟨xs, sx, by rw [lx.length, e, enum_len]; omega⟩⟩
  obtain ⟨x, ex, rfl⟩ := enum_at e
  obtain ⟨u, e1, r⟩ := lx.get ex
  refine ⟨⟨xs, u, sx, e1⟩, fun z H2 h => ?_⟩
  obtain ⟨T, u', rfl, hT, rfl, h1⟩ := h
  have q1 := h1 xs sx
  rw [e1] at q1; cases q1
  have tn : Tx K H' (upd H' T (.tup [.int (i : Nat), u])) := Tx.new hT
  exact ⟨tn, rm.keepNew hT, .tup (.inl (.of upd_same)) (.cons (.int _) (.cons (r.mono tn) .nil))⟩
theorem ri_enumerate {X : Cx} {e : Expr} {da : DA} {p pos tpos : Pos} {elts : List Expr} {kk : Nat} (hg : Gl X "enumerate") (hm : X.mg "enumerate" = none) (ha : RA X [e] da) (hs : starEach [e] X.env = [(false, eval e X.env)] := by rfl) :
    RI X (.Tuple elts kk tpos) (.Call (.Name "enumerate" p) [e] [] pos) (dEnum da) :=
  pi_imp (pi_enum hg hm ha hs) fun σ H R ⟨E, M, Q', sl, rm, h, k⟩ => ⟨E, M, _, sl, rm, h, fun vs H' ds M' t rm' r q => by
    obtain ⟨a, xs, rfl, hl, q2⟩ := q
    obtain ⟨v, rfl, r1⟩ := r.inv1
    obtain ⟨ys, sq, l⟩ := hl.sq rm'
    exact ⟨a, ys, by rw [r1.inv_ref], sq, k _ _ _ _ _ t rm' it_enum q2⟩⟩
end DH

set_option Elab.async false
set_option linter.all false
set_option autoImplicit false
set_option maxRecDepth 100000
set_option maxHeartbeats 400000
/-! Deep readings: a def called by another global name. -/
namespace DH
open PySem PySem.Spec PyProof.Rows L2
def TopA (K : PySem.W.Frag) (mg : Str → Option Value) (g x : Str) (st : Stmt) : Prop := ∃ f fd, FunD K x x (defArgs st) (defBody st) (defScope st) [] [] f fd ∧ mg g = some (.ref f)
theorem cala_mk {P : Program} {w : World} {K : PySem.W.Frag} {mg : Str → Option Value} {base : Heap} {g x : Str} {st : Stmt} {N ps : List Str} {k : Nat} {sp : DSp} {b : DS}
    (T : TopA K mg g x st) (S : FnScope N ps (defScope st)) (bd : ∀ (kV doc pm : Value) (an : Option Addr) (cdv ct : Value) (us : List Value), us.length = ps.length → bindArgs (PySem.W.fnOf x x (defArgs st) (defBody st) (defScope st) .none kV doc pm an cdv ct) ⟨us, []⟩ = pure (ps.zip us))
    (hb : ∀ (f : Addr) (cdv : Value) (A : Around) (outer : List Env) (s : Shared) (H : Hp) (E : XK), Room k (A.deeper (envOfC x (defScope st) s.heap.objs.size f cdv)) → RSs (Xf P w K mg base N x (defScope st) f cdv A outer s H E) (defBody st) b)
    (len : ∀ ds M Q E, sp ds M Q E → ds.length = ps.length)
    (hq : ∀ ds M Q E, sp ds M Q E → b { nx := fun _ M' => Q .non M', rt := Q } (startD N.length ds) M) : Cal P w K mg base (k + 1) g ps sp := by
  obtain ⟨f, fd, F, hm⟩ := T
  exact ⟨f, fd, fn_ok F S len (hb f) hq, hm, F.kp, F.bindsN bd⟩
end DH

set_option Elab.async false
set_option linter.all false
set_option autoImplicit false
set_option maxRecDepth 100000
set_option maxHeartbeats 4000000
/-! Generators that hand out pairs of numbers, walked by a for that puts them behind a list. Here: the generator's side, woken over any heap that keeps its own objects. -/
namespace DG
open PySem PySem.Spec PyProof.Rows L2 GenW
/-! ### the heap below an address -/
def trunc (h : Heap) (L : Nat) : Heap := { h with objs := h.objs.extract 0 L }
theorem trunc_size (h : Heap) (L : Nat) : (trunc h L).objs.size = min L h.objs.size := by
  unfold trunc; simp
theorem trunc_get (h : Heap) (L b : Nat) : (trunc h L).get? b = if b < L then h.get? b else none := by
  unfold trunc Heap.get?
  by_cases hb : b < L
  · rw [if_pos hb]
    have : (h.objs.extract 0 L)[b]? = h.objs[b]? := by
      rw [Array.getElem?_extract]
      by_cases h2 : b < h.objs.size
      · rw [if_pos (by omega)]; simp
      · rw [if_neg (by omega)]; simp [h2]
    simp only [this]
  · rw [if_neg hb]
    have : (h.objs.extract 0 L)[b]? = none := by
      rw [Array.getElem?_extract, if_neg (by omega)]
    simp only [this]
theorem of_trunc {h : Heap} {L b : Nat} {o : Obj} (e : (trunc h L).get? b = some o) : b < L ∧ h.get? b = some o := by
  rw [trunc_get] at e
  by_cases hb : b < L
  · rw [if_pos hb] at e; exact ⟨hb, e⟩
  · rw [if_neg hb] at e; cases e
theorem to_trunc {h : Heap} {L b : Nat} {o : Obj} (hb : b < L) (e : h.get? b = some o) : (trunc h L).get? b = some o := by
  rw [trunc_get, if_pos hb]; exact e
theorem trunc_frames {h base : Heap} {L : Nat} : ∀ {l : List Env}, (∀ b ∈ frs l, b < L) → h.FunFrames base l → (trunc h L).FunFrames base l
  | [], _, _ => trivial
  | env :: r, hs, ⟨hk, ⟨F, o, hf, hn, ho, hd⟩, hr⟩ => by
    have hL : F ∈ frs (env :: r) := by unfold frs; rw [List.filterMap_cons, hf]; exact List.mem_cons_self
    exact ⟨hk, ⟨F, o, hf, hn, to_trunc (hs F hL) ho, hd⟩, trunc_frames (fun b hb => hs b (by unfold frs; rw [List.filterMap_cons, hf]; exact List.mem_cons_of_mem _ hb)) hr⟩
def isSeqO (o : Obj) : Prop := ∃ xs n, o.data = .seq xs n
/-- the generator's body, run from the wake at sw: all below its own frame is the entry's heap -/
def gcx (P : Program) (w : World) (K : PySem.W.Frag) (mg : Str → Option Value) (base : Heap) (N : List Str) (qual : Str) (scope : Scope) (f : Addr) (cd : Value) (A : Around) (outer : List Env) (L : Addr) (sw : Shared) : Cx where
  prog := P
  w := w
  K := K
  mg := mg
  base := base
  A := A.deeper (envOfC qual scope L f cd)
  N := N
  s_0 := { sw with heap := trunc sw.heap L }
  H_0 := fun _ => none
  env := envOfC qual scope L f cd
  outer := outer
  stack := envOfC qual scope L f cd :: outer
  ex := []
  calm := true
  fn := fun _ => true
  pn := []
  xe := fun _ _ => False
section
variable {P : Program} {w : World} {K : PySem.W.Frag} {mg : Str → Option Value} {base : Heap} {N : List Str} {qual : Str} {scope : Scope} {f : Addr} {cd : Value} {A : Around} {outer : List Env} {L : Nat}
/-- every sequence that stood at the wake, from L on, is pinned -/
def Cov (s₀ : Shared) (L : Addr) (pw : List (Addr × Obj)) : Prop := (∀ b o, s₀.heap.get? b = some o → L ≤ b → isSeqO o → (b, o) ∈ pw) ∧ ∀ p ∈ pw, isSeqO p.2
/-- what the sleep keeps; own: the generator's own objects -/
structure Wk (base : Heap) (outer : List Env) (os : OsState) (own : List Addr) (s s' : Shared) : Prop where
  os : s'.os = os
  bare : AllBare s'.gens
  bs : ∀ b o, base.get? b = some o → s'.heap.get? b = some o
  funs : s'.heap.FunFrames base outer
  own : ∀ b ∈ own, ∀ o, s.heap.get? b = some o → s'.heap.get? b = some o
noncomputable def seqPins (h : Heap) (L : Addr) : List (Addr × Obj) := by
  classical
  exact (List.range h.objs.size).filterMap fun b => match h.get? b with
    | some o => if L ≤ b ∧ isSeqO o then some (b, o) else none
    | none => none
theorem mem_seqPins {h : Heap} {L b : Addr} {o : Obj} (e : h.get? b = some o) (hl : L ≤ b) (hs : isSeqO o) : (b, o) ∈ seqPins h L := by
  classical
  unfold seqPins
  refine List.mem_filterMap.mpr ⟨b, List.mem_range.mpr (Heap.lt_size e), ?_⟩
  rw [e]
  simp [hl, hs]
theorem of_seqPins {h : Heap} {L : Addr} {p : Addr × Obj} (hp : p ∈ seqPins h L) : h.get? p.1 = some p.2 ∧ L ≤ p.1 ∧ isSeqO p.2 := by
  classical
  unfold seqPins at hp
  obtain ⟨b, _, e⟩ := List.mem_filterMap.mp hp
  cases q : h.get? b with
  | none => rw [q] at e; cases e
  | some o =>
    rw [q] at e
    by_cases c : L ≤ b ∧ isSeqO o
    · have e : (if L ≤ b ∧ isSeqO o then some (b, o) else none) = some p := e
      rw [if_pos c] at e
      cases e
      exact ⟨q, c.1, c.2⟩
    · have e : (if L ≤ b ∧ isSeqO o then some (b, o) else none) = some p := e
      rw [if_neg c] at e; cases e
/-- the generator's own iterators -/
def OwnI (L : Addr) (ip : List (Addr × Obj)) : Prop := ∀ p ∈ ip, L < p.1 ∧ ¬ isSeqO p.2
theorem non_some {α : Type} {p : Prop} {x : α} (e : (none : Option α) = some x) : p := by cases e
/-- at a wake -/
theorem wakeInv0 {s' : Shared} {os : OsState} {ip : List (Addr × Obj)} {σ : L2.St} (hmod : Mod K mg base) (hk : scope.kind = .function) (hA : A.frames = some outer) (hd : A.handled = none) (hhas : ∀ x, ((envOfC qual scope L f cd).kindOf x = some .cell ∨ (envOfC qual scope L f cd).kindOf x = some .free) → ∃ c, (envOfC qual scope L f cd).cells.lookup x = some c)
    (hcl : ∀ x, (envOfC qual scope L f cd).cells.lookup x = none) (hfr : ∀ b ∈ frs outer, b < L) (hbz : base.objs.size ≤ L) (hlen : σ.length = N.length) (hb : AllBare s'.gens) (hbs : ∀ b o, base.get? b = some o → s'.heap.get? b = some o) (hfun : s'.heap.FunFrames base outer)
    (hloc : ∃ m, s'.heap.Ns L m ∧ ∀ (i : Nat) (x : Str) (v : V), N[i]? = some x → σ[i]? = some (some v) → Vis scope x → ∃ u, RelV v u ∧ Look (envOfC qual scope L f cd) s'.heap m x u)
    (hip : ∀ p ∈ ip, s'.heap.get? p.1 = some p.2 ∧ (L : Nat) < p.1 ∧ ∀ v, p.2.data ≠ .cell v) :
    Cov s' L (seqPins s'.heap L) ∧ Inv (gcx P w K mg base N qual scope f cd A outer L s') (seqPins s'.heap L ++ ip) σ (fun _ => none) s' := by
  refine ⟨⟨fun b o e hl hs => mem_seqPins e hl hs, fun p hp => (of_seqPins hp).2.2⟩, ?_⟩
  obtain ⟨m, hns, hl⟩ := hloc
  obtain ⟨oL, es, ep, eL', dL, rL⟩ := id hns
  have hsz : (L : Nat) < s'.heap.objs.size := Heap.lt_size eL'
  have hts : (trunc s'.heap L).objs.size = L := by rw [trunc_size]; omega
  have ncl : ∀ {x c} {q : Prop}, (envOfC qual scope L f cd).cells.lookup x = some c → q := fun {x c q} e => by rw [hcl] at e; cases e
  refine ⟨⟨hmod, hk, rfl, rfl, ?_, fun x y c e _ => ncl e, hhas, fun x c _ e => ncl e, fun _ => hd, Around.frames_deeper hA, .inr ⟨rfl, rfl⟩, fun b hb => absurd hb (by simp [gcx]), fun b o e => ⟨to_trunc (Nat.lt_of_lt_of_le (Heap.lt_size e) hbz) (hbs b o e), rfl⟩, ?_, fun b o _ => by simp [gcx], fun b hb => absurd hb (by simp [gcx]), trunc_frames hfr hfun, fun _ _ => rfl⟩,
    rfl, hb, ⟨fun b o e _ _ _ => (of_trunc e).2, fun b o e _ _ _ => ⟨o.slots, (of_trunc e).2⟩, fun _ _ _ _ _ => rfl, fun b o e _ => ⟨o, (of_trunc e).2⟩, fun _ _ e => non_some e, fun _ _ _ e => non_some e, fun _ _ e => non_some e⟩,
    ⟨m, hns, hl⟩, fun x c e => ncl e, rfl, fun _ _ _ => rfl, fun p hp => ?_, fun _ _ e => non_some e, hlen⟩
  · show (trunc s'.heap L).objs.size ≤ L
    omega
  · show base.objs.size ≤ (trunc s'.heap L).objs.size
    omega
  · have hp : p ∈ seqPins s'.heap L ++ ip := hp
    rcases List.mem_append.mp hp with hp | hp
    · obtain ⟨e, hLp, hs⟩ := of_seqPins hp
      refine ⟨e, rfl, fun z => ?_, fun z => ?_, fun v q => ?_⟩
      · have z : p.1 = L := z
        rw [z, eL'] at e; cases e
        obtain ⟨xs, n, q⟩ := hs
        rw [dL] at q; cases q
      · exact absurd (show (p.1 : Nat) < L from hfr _ z) (Nat.not_lt.mpr hLp)
      · obtain ⟨xs, n, q'⟩ := hs
        rw [q'] at q; cases q
    · obtain ⟨e, hlt, hd⟩ := hip p hp
      exact ⟨e, rfl, Nat.ne_of_gt hlt, fun z => Nat.lt_asymm hlt (hfr _ z), hd⟩
/-- woken -/
theorem wakeInv {s₀ s s' : Shared} {os : OsState} {pw ip : List (Addr × Obj)} {σ : L2.St} {H : Hp} (hcl : ∀ x, (envOfC qual scope L f cd).cells.lookup x = none) (hfr : ∀ b ∈ frs outer, b < L) (hbz : base.objs.size ≤ L) (hA : A.frames = some outer)
    (I : Inv (gcx P w K mg base N qual scope f cd A outer L s₀) (pw ++ ip) σ H s) (ho : OwnI L ip) (k : Wk base outer os (L :: ip.map (·.1)) s s') :
    Cov s' L (seqPins s'.heap L) ∧ Inv (gcx P w K mg base N qual scope f cd A outer L s') (seqPins s'.heap L ++ ip) σ (fun _ => none) s' := by
  obtain ⟨m, ⟨oL, es, ep, eL, dL, rL⟩, hl⟩ := I.loc
  have eL : s.heap.get? L = some oL := eL
  refine wakeInv0 (os := os) I.ok.mod I.ok.kind hA (I.ok.hd rfl) I.ok.has hcl hfr hbz I.len k.bare k.bs k.funs ⟨m, ⟨oL, es, ep, k.own L (by simp) oL eL, dL, rL⟩, fun i x v h1 h2 h3 => ?_⟩ fun p hp => ?_
  · obtain ⟨u, r, lk⟩ := hl i x v h1 h2 h3
    refine ⟨u, r, ?_⟩
    rcases lk with lk | ⟨_, c, e, _⟩
    · exact .inl lk
    · have : (envOfC qual scope L f cd).cells.lookup x = some c := e
      rw [hcl] at this; cases this
  · obtain ⟨e, _, hne, hnf, hd⟩ := I.pin p (by show p ∈ [] ++ (pw ++ ip); simp [hp])
    exact ⟨k.own p.1 (List.mem_cons_of_mem _ (List.mem_map.mpr ⟨p, hp, rfl⟩)) _ e, (ho p hp).1, hd⟩
end
end DG

set_option Elab.async false
set_option linter.all false
set_option autoImplicit false
set_option maxRecDepth 100000
set_option maxHeartbeats 4000000
/-! Generators: their statements (for over a range, yield). -/
namespace DG
open PySem PySem.Spec PyProof.Rows L2 GenW
section
variable {M : Model} {A : Around} {R : GenEnd} {Y : Protocol} {n : Nat} {s₀ : Shared} {c : Code} {fs : List Frame} {s : Shared} {env : Env} {K : Flow → Sem PySem.Fin} {J : Value → Sem PySem.Fin} {gd : Bool → Bool} {lv : List Value → List Value}
/-- a for within a generator, up to its loop -/
theorem seg_For {tg iter : Expr} {body orelse : List Stmt} {pos : Pos}
    (h : wpAny M (A.over c fs) (eval iter env) (fun x s1 => wpAny M (A.over c fs) (pyIter x) (fun it s2 => ∀ p, Seg M A R Y n s₀ (.forLoop tg it body orelse env) (M.den (.forLoop tg it body orelse env))
      (.ret (fun r => ((match r with | .ok f => (.pure f : Sem Flow) | .error e => .raise e).onRaise (cameBack env)).wrap K J gd lv) none (gd false) (lv []) c p [] :: fs) s2) (fun _ _ => False) s1) (fun _ _ => False) s)
    (hs : ∀ x, foldedSetIterable iter env x = pure x := by intro _; rfl) : Seg M A R Y n s₀ c ((exec (.For tg iter body orelse pos) env).wrap K J gd lv) fs s := by
  rw [exec_For]
  refine seg_bind_wrap (wpAny_standAt ?_)
  refine seg_bind_wrap (wpAny_mono h (fun x s1 h1 => ?_) fun _ _ z => z.elim)
  refine seg_bind_wrap (wpAny_of_eq (hs x) ?_)
  refine seg_bind_wrap (wpAny_standAt ?_)
  refine seg_bind_wrap (wpAny_holding (wpAny_mono h1 (fun it s2 h2 => ?_) fun _ _ z => z.elim))
  exact seg_call h2
end
section
variable {prog : Program} {w : World} {A : Around} {R : GenEnd} {Y : Protocol} {n : Nat} {s₀ : Shared} {fs : List Frame} {s : Shared} {env : Env}
/-- a turn of the loop; nothing raises -/
theorem seg_forLoop {tg : Expr} {it : Value} {body : List Stmt}
    (h : wpAny (model prog w) (A.over (.forLoop tg it body [] env) fs) (pyNext it) (fun r s1 => match r with
      | none => ∀ c', Seg (model prog w) A R Y n s₀ c' (leafOf (.ok .next)) fs s1
      | some v => wpAny (model prog w) (A.over (.forLoop tg it body [] env) fs) (letOwnedTupleGo tg it v) (fun _ s2 => wpAny (model prog w) (A.over (.forLoop tg it body [] env) fs) (assign tg env v) (fun _ s3 =>
          ∀ (K : Flow → Sem PySem.Fin) (J : Value → Sem PySem.Fin), (K .next = .pure (.again (.forLoop tg it body [] env))) → Seg (model prog w) A R Y n s₀ (.forLoop tg it body [] env) ((execs body env).wrap K J id id) fs s3) (fun _ _ => False) s2) (fun _ _ => False) s1) (fun _ _ => False) s) :
    Seg (model prog w) A R Y n s₀ (.forLoop tg it body [] env) ((model prog w).den (.forLoop tg it body [] env)) fs s := by
  show Seg _ A R Y n s₀ _ ((forTurn tg it body [] env).onRaise (fun x => do noteFrame x env; theTreesLotGoes x)) fs s
  unfold forTurn
  rw [Sem.onRaise_eq_wrap]
  refine seg_bind_wrap (wpAny_standAt ?_)
  refine seg_bind_wrap (wpAny_onRaise (wpAny_mono h (fun r s1 h1 => ?_) fun _ _ z => z.elim))
  cases r with
  | none =>
    refine seg_again rfl ?_
    exact h1 _
  | some v =>
    refine seg_bind_wrap (wpAny_mono h1 (fun _ s2 h2 => ?_) fun _ _ z => z.elim)
    refine seg_bind_wrap (wpAny_mono h2 (fun _ s3 h3 => ?_) fun _ _ z => z.elim)
    rw [Sem.bind_eq_wrap', Sem.wrap_wrap]
    exact h3 _ _ rfl
end
/-! ### the judgement -/
structure Par where
  P : Program
  w : World
  K : PySem.W.Frag
  mg : Str → Option Value
  base : Heap
  N : List Str
  qual : Str
  scope : Scope
  f : Addr
  cd : Value
  A : Around
  outer : List Env
  L : Nat
  os : OsState
  items : List (Int × Int)
  pin : Addr × Obj
abbrev Par.env (p : Par) : Env := envOfC p.qual p.scope p.L p.f p.cd
abbrev Par.G (p : Par) (sw : Shared) : Cx := gcx p.P p.w p.K p.mg p.base p.N p.qual p.scope p.f p.cd p.A p.outer p.L sw
def OwnP (p : Par) (ip : List (Addr × Obj)) : Prop := OwnI p.L ip ∧ p.pin ∈ ip
def Par.Y (p : Par) : Protocol := fun n s₀ v s kap => ∃ (j : Nat) (T : Addr) (a b : Int) (pw ip : List (Addr × Obj)) (σ : L2.St) (H1 : Hp), n + 1 + j = p.items.length ∧ p.items[j]? = some (a, b) ∧ v = .ref T ∧ H1 T = some (.tup [.int a, .int b]) ∧
  Inv (p.G s₀) (pw ++ ip) σ H1 s ∧ Cov s₀ p.L pw ∧ OwnP p ip ∧ ∀ s', Wk p.base p.outer p.os (p.L :: ip.map (·.1)) s s' → kap (.send .none) s'
structure Par.Ok (p : Par) : Prop where
  cl : ∀ x, p.env.cells.lookup x = none
  fr : ∀ b ∈ frs p.outer, b < p.L
  bz : p.base.objs.size ≤ p.L
  fm : p.A.frames = some p.outer
/-- where the generator's code stands -/
structure GC2 (p : Par) (A : Around) (c : Code) (fs : List Frame) (gd : Bool → Bool) : Prop where
  over : A.over c fs = p.A.deeper p.env
  split : splitAtGen fs = none
  guard : fs.any Frame.guarded = false
  gd : gd false = false
abbrev TW := (Nat → L2.St → Prop) → Nat → L2.St → Prop
structure GS2 (p : Par) (st : Stmt) (t : TW) : Prop where
  run : ∀ (A : Around) (R : GenEnd) (n j : Nat) (s₀ : Shared) (c : Code) (fs : List Frame) (K : Flow → Sem PySem.Fin) (J : Value → Sem PySem.Fin) (gd : Bool → Bool) (lv : List Value → List Value) (s : Shared) (σ : L2.St) (D : Nat → L2.St → Prop) (pw ip : List (Addr × Obj)) (H : Hp),
    GC2 p A c fs gd → n + j = p.items.length →
    (∀ (n j : Nat) (s₀ s : Shared) (pw : List (Addr × Obj)) (σ : L2.St) (H : Hp), n + j = p.items.length → Cov s₀ p.L pw → Inv (p.G s₀) (pw ++ ip) σ H s → D j σ → Seg (model p.P p.w) A R p.Y n s₀ c (K .next) fs s) →
    Cov s₀ p.L pw → OwnP p ip → Inv (p.G s₀) (pw ++ ip) σ H s → t D j σ → Seg (model p.P p.w) A R p.Y n s₀ c ((exec st p.env).wrap K J gd lv) fs s
structure GSs2 (p : Par) (st : List Stmt) (t : TW) : Prop where
  run : ∀ (A : Around) (R : GenEnd) (n j : Nat) (s₀ : Shared) (c : Code) (fs : List Frame) (K : Flow → Sem PySem.Fin) (J : Value → Sem PySem.Fin) (gd : Bool → Bool) (lv : List Value → List Value) (s : Shared) (σ : L2.St) (D : Nat → L2.St → Prop) (pw ip : List (Addr × Obj)) (H : Hp),
    GC2 p A c fs gd → n + j = p.items.length →
    (∀ (n j : Nat) (s₀ s : Shared) (pw : List (Addr × Obj)) (σ : L2.St) (H : Hp), n + j = p.items.length → Cov s₀ p.L pw → Inv (p.G s₀) (pw ++ ip) σ H s → D j σ → Seg (model p.P p.w) A R p.Y n s₀ c (K .next) fs s) →
    Cov s₀ p.L pw → OwnP p ip → Inv (p.G s₀) (pw ++ ip) σ H s → t D j σ → Seg (model p.P p.w) A R p.Y n s₀ c ((execs st p.env).wrap K J gd lv) fs s
section
variable {p : Par}
theorem gss2_one {st : Stmt} {t : TW} (h : GS2 p st t) : GSs2 p [st] t := by
  refine ⟨fun A R n j s₀ c fs K J gd lv s σ D pw ip H g hn k cov own I ht => ?_⟩
  refine seg_execs_cons ?_
  refine h.run A R n j s₀ c fs _ J gd lv s σ D pw ip H g hn (fun n j s₀ s pw σ H hn cov I d => ?_) cov own I ht
  exact seg_execs_nil (k n j s₀ s pw σ H hn cov I d)
/-- a pair is handed out -/
def tYield2 (p : Par) (te : TE) : TW := fun D j σ => j < p.items.length ∧ (∀ H, te σ H fun x H1 => ∃ (T : Addr) (a b : Int), x = .ref T ∧ H1 T = some (.tup [.int a, .int b]) ∧ p.items[j]? = some (a, b)) ∧ D (j + 1) σ
theorem gs2_yield {e : Expr} {yp pos : Pos} {te : TE} (ok : p.Ok) (he : ∀ sw, PE (p.G sw) e te) (hco : p.scope.isCoroutine = false := by rfl) (hi : interactive p.env = false := by rfl) : GS2 p (.Expr (.Yield (some e) yp) pos) (tYield2 p te) := by
  refine ⟨fun A R n j s₀ c fs K J gd lv s σ D pw ip H g hn k cov own I ⟨hj, ht, hD⟩ => ?_⟩
  obtain ⟨m, rfl⟩ : ∃ m, n = m + 1 := ⟨n - 1, by omega⟩
  refine seg_Expr_Yield g.split g.gd g.guard ?_ hco hi
  rw [g.over]
  refine wpAny_mono ((he s₀).run (pw ++ ip) s σ H _ I (ht H)) (fun v s' hv => ?_) fun x s' hx => hx.elim
  obtain ⟨x, H1, I1, rv, T, a, b, rfl, hT, hit⟩ := hv
  have rv : v = .ref T := rv
  intro kap hk
  refine ⟨j, T, a, b, pw, ip, σ, H1, by omega, hit, rv, hT, I1, cov, own, fun s'' z => hk .none s'' ?_⟩
  obtain ⟨cov', I'⟩ := wakeInv ok.cl ok.fr ok.bz ok.fm I1 own.1 z
  exact k m (j + 1) s'' s'' _ σ _ (by omega) cov' I' hD
/-- what a range in a for must give -/
structure RgE (X : Cx) (iter : Expr) (σ : L2.St) (lo : Int) (n : Nat) : Prop where
  run : ∀ (pins : List (Addr × Obj)) (s : Shared) (H : Hp), Inv X pins σ H s → wpAny (model X.prog X.w) X.A (eval iter X.env) (fun v s1 => wpAny (model X.prog X.w) X.A (pyIter v) (fun u s2 => ∃ (it : Addr) (H2 : Hp), u = .ref it ∧ Inv X pins σ H2 s2 ∧ IsRangeIter s2.heap it (lo + ((0 : Nat) : Int) * 1) ((n : Int) - ((0 : Nat) : Int)) 1 ∧ FpOk X pins H2 it ∧ X.env.locals < it) X.xe s1) X.xe s

theorem gc2_loop {A : Around} {c c' : Code} {fs : List Frame} {gd : Bool → Bool} {k : Result → Sem PySem.Fin} {l kp : List Value} {q : Pos} (g : GC2 p A c fs gd) (hw : c'.weight = 0) (hu : c'.cUnits = 0) : GC2 p A c' (.ret k none (gd false) l c q kp :: fs) id where
  over := (over_loop hw hu).trans g.over
  split := by
    show (splitAtGen fs).map _ = none
    rw [g.split]; rfl
  guard := by
    show (gd false || fs.any Frame.guarded) = false
    rw [g.gd, g.guard]; rfl
  gd := rfl
def tForR (p : Par) (iter : Expr) (i : Nat) (tb : TW) : TW := fun D j σ => ∃ (lo : Int) (n : Nat), (∀ sw, RgE (p.G sw) iter σ lo n) ∧ ∃ W : Nat → Nat → L2.St → Prop, W 0 j σ ∧
  (∀ k j σ, k < n → W k j σ → tb (W (k + 1)) j (σ.set i (some (.int (lo + (k : Nat)))))) ∧ ∀ j σ, W n j σ → D j σ
theorem gs2_for {x : Str} {px pos : Pos} {iter : Expr} {body : List Stmt} {i : Nat} {tb : TW} (ok : p.Ok) (hN : p.N.Nodup) (hi : p.N[i]? = some x) (hx : Loc p.scope x) (hb : GSs2 p body tb)
    (hs : ∀ v, foldedSetIterable iter p.env v = pure v := by intro _; rfl) : GS2 p (.For (.Name x px) iter body [] pos) (tForR p iter i tb) := by
  refine ⟨fun A R n j s₀ c fs K J gd lv s σ D pw ip H g hn k cov own I ⟨lo, m, hr, W, w0, step, fin⟩ => ?_⟩
  refine seg_For ?_ hs
  rw [g.over]
  refine wpAny_mono ((hr s₀).run (pw ++ ip) s H I) (fun v s1 h1 => wpAny_mono h1 (fun u s2 h2 => fun q => ?_) fun _ _ z => z.elim) fun _ _ z => z.elim
  obtain ⟨it, H2, rfl, I2, st2, f2, hlt⟩ := h2
  have hlt : p.L < it := hlt
  have hip : ∀ y ∈ ip, y.1 ≠ it := fun y hy => f2.2.2.2.2.2 y (by show y ∈ [] ++ (pw ++ ip); simp [hy])
  have hnf : it ∉ frs p.outer := f2.2.2.1
  have fpOk : ∀ {s₀ : Shared} {pw : List (Addr × Obj)} {H : Hp}, (∀ y ∈ pw, y.1 ≠ it) → H it = none → FpOk (p.G s₀) (pw ++ ip) H it := fun {s₀ pw H} hp hn => by
    refine ⟨hn, Nat.ne_of_gt hlt, hnf, .inr ?_, fun y c e => ?_, fun y hy => ?_⟩
    · show (trunc s₀.heap p.L).objs.size ≤ it
      rw [trunc_size]
      have : (p.L : Nat) ≤ it := Nat.le_of_lt hlt
      omega
    · have e : p.env.cells.lookup y = some c := e
      rw [ok.cl] at e; cases e
    · have hy : y ∈ [] ++ (pw ++ ip) := hy
      rw [List.nil_append] at hy
      rcases List.mem_append.mp hy with hy | hy
      · exact hp y hy
      · exact hip y hy
  have gl := fun (kk : Result → Sem PySem.Fin) => gc2_loop (k := kk) (c' := .forLoop (.Name x px) (.ref it) body [] p.env) (l := lv []) (kp := []) (q := q) g rfl rfl
  have loop : ∀ (r kk n j : Nat) (s₀ s : Shared) (pw : List (Addr × Obj)) (σ : L2.St) (H : Hp), kk + r = m → n + j = p.items.length → Cov s₀ p.L pw → Inv (p.G s₀) (pw ++ ip) σ H s → IsRangeIter s.heap it (lo + ((kk : Nat) : Int) * 1) ((m : Int) - (kk : Nat)) 1 → (∀ y ∈ pw, y.1 ≠ it) → H it = none → W kk j σ →
      Seg (model p.P p.w) A R p.Y n s₀ (.forLoop (.Name x px) (.ref it) body [] p.env) ((model p.P p.w).den (.forLoop (.Name x px) (.ref it) body [] p.env))
        (.ret (fun r => ((match r with | .ok f => (.pure f : Sem Flow) | .error e => .raise e).onRaise (cameBack p.env)).wrap K J gd lv) none (gd false) (lv []) c q [] :: fs) s := by
    intro r
    induction r with
    | zero =>
      intro kk n j s₀ s pw σ H hk hn cov I st hp hH w
      refine seg_forLoop ?_
      rw [(gl _).over]
      refine wpAny_mono ((turn_range (P := p.P) (w := p.w) (K := p.K) (tg := .Name x px) it lo m).done (p.G s₀) rfl rfl rfl rfl kk (pw ++ ip) s σ H (fun _ _ => False) I (fun b hb => by rw [List.mem_singleton.mp hb]; exact fpOk hp hH) st (by show m ≤ kk; omega)) (fun r s4 ⟨hr, I4⟩ => ?_) fun _ _ z => z.elim
      subst hr
      intro c'
      refine seg_leaf (.ok .next) ?_
      have : kk = m := by omega
      subst this
      exact k n j s₀ s4 pw σ H hn cov I4 (fin j σ w)
    | succ r ih =>
      intro kk n j s₀ s pw σ H hk hn cov I st hp hH w
      refine seg_forLoop ?_
      rw [(gl _).over]
      refine wpAny_mono ((turn_range (P := p.P) (w := p.w) (K := p.K) (tg := .Name x px) it lo m).item (p.G s₀) rfl rfl rfl rfl kk (pw ++ ip) s σ H (fun _ _ => False) I (fun b hb => by rw [List.mem_singleton.mp hb]; exact fpOk hp hH) st (by show kk < m; omega)) (fun r s4 ⟨u, hr, h4⟩ => ?_) fun _ _ z => z.elim
      subst hr
      refine wpAny_mono h4 (fun _ s5 h5 => ?_) fun _ _ z => z.elim
      obtain ⟨xv, H5, I5, rv, ⟨rfl, hxv⟩, st5, fr5⟩ := h5
      obtain ⟨o, eo, nso, nco, back⟩ : ∃ o : Obj, s5.heap.get? it = some o ∧ ¬ isSeqO o ∧ (∀ v, o.data ≠ .cell v) ∧ ∀ s : Shared, s.heap.get? it = some o → IsRangeIter s.heap it (lo + ((kk + 1 : Nat) : Int) * 1) ((m : Int) - ((kk + 1 : Nat) : Int)) 1 := ⟨_, st5, fun ⟨_, _, z⟩ => (nomatch z), fun v z => (nomatch z), fun _ e => e⟩
      have own' : OwnP p ((it, o) :: ip) := ⟨fun y hy => (by
        rcases List.mem_cons.mp hy with rfl | hy
        · exact ⟨hlt, nso⟩
        · exact own.1 y hy), List.mem_cons_of_mem _ own.2⟩
      have I6 : Inv (p.G s₀) (pw ++ ((it, o) :: ip)) σ H5 s5 := I5.pins_of fun y hy => by
        rcases List.mem_append.mp hy with hy | hy
        · exact I5.pin y (by show y ∈ [] ++ (pw ++ ip); simp [hy])
        · rcases List.mem_cons.mp hy with rfl | hy
          · exact ⟨eo, hH, Nat.ne_of_gt hlt, hnf, nco⟩
          · exact I5.pin y (by show y ∈ [] ++ (pw ++ ip); simp [hy])
      refine wpAny_mono ((pg_name (X := p.G s₀) (pos := px) hN hi hx (.inl rfl)).run _ s5 σ H5 xv u (fun σ' H' => σ' = σ.set i (some xv) ∧ H' = H5) I6 rv ⟨rfl, rfl⟩) (fun _ s6 h6 => ?_) fun _ _ z => z.elim
      obtain ⟨σ6, H6, I7, rfl, rfl⟩ := h6
      intro K' J' hK'
      have w' := step kk j σ (by omega) w
      refine hb.run A R n j s₀ _ _ K' J' id id s6 _ (W (kk + 1)) pw _ H6 (gl _) hn (fun n j s₀ s pw σ H hn cov I d => ?_) cov own' I7 (by rw [hxv]; exact w')
      rw [hK']
      have pin := I.pin (it, o) (by show _ ∈ [] ++ (pw ++ (it, o) :: ip); simp)
      refine seg_again rfl (ih (kk + 1) n j s₀ s pw σ H (by omega) hn cov (I.pins_of fun y hy => I.pin y (by show y ∈ [] ++ (pw ++ (it, o) :: ip); rcases List.mem_append.mp hy with hy | hy <;> simp [hy])) (back s pin.1) (fun y hy e => ?_) pin.2.1 d)
      obtain ⟨xs, nn, hsq⟩ := cov.2 y hy
      have py := I.pin y (by show y ∈ [] ++ (pw ++ (it, o) :: ip); simp [hy])
      rw [e, pin.1] at py
      have := Option.some.inj py.1
      have this : o = y.2 := this
      exact nso (by rw [this]; exact ⟨xs, nn, hsq⟩)
  exact loop m 0 n j s₀ s2 pw σ H2 (by omega) hn cov I2 st2 (fun y hy => f2.2.2.2.2.2 y (by show y ∈ [] ++ (pw ++ ip); simp [hy])) f2.1 w0
end
end DG

set_option Elab.async false
set_option linter.all false
set_option autoImplicit false
set_option maxRecDepth 100000
set_option maxHeartbeats 4000000
/-! Generators: windows. -/
namespace DG
open PySem PySem.Spec PyProof.Rows L2 GenW DH
section
variable {X : Cx}
theorem rgi {pins : List (Addr × Obj)} {σ : L2.St} {H : Hp} {s : Shared} {E : Value → Shared → Prop} {lo hi : Int} {t u v : Tok} {tk : Nat} (I : Inv X pins σ H s) (h1 : -(2 ^ 62) ≤ lo) (h2 : lo < 2 ^ 62) (h3 : -(2 ^ 62) ≤ hi) (h4 : hi < 2 ^ 62) :
    wpAny (model X.prog X.w) X.A (pyIter (.ref s.heap.objs.size)) (fun u s2 => ∃ (it : Addr) (H2 : Hp), u = .ref it ∧ Inv X pins σ H2 s2 ∧ IsRangeIter s2.heap it (lo + ((0 : Nat) : Int) * 1) ((((hi - lo).toNat : Nat) : Int) - ((0 : Nat) : Int)) 1 ∧ FpOk X pins H2 it ∧ X.env.locals < it) E
      { s with heap := s.heap.push { cls := .type "range", data := .fields #[.int lo t, .int hi u, .int 1 v] }, toks := tk } := by
  refine wpAny_pyIter_range (IsRange.new ..) (small_one h1 h2 h3 h4) ?_
  have I1 : Inv X pins σ H { s with heap := s.heap.push { cls := .type "range", data := .fields #[.int lo t, .int hi u, .int 1 v] }, toks := tk } := I.kept fun b o e => Heap.get?_push_of_some _ e
  refine ⟨(s.heap.push { cls := .type "range", data := .fields #[.int lo t, .int hi u, .int 1 v] }).objs.size, H, rfl, I1.kept (t' := tk) fun b o e => Heap.get?_push_of_some _ e, ?_, I1.fpOk (Nat.le_refl _) (I1.hok.fresh (Nat.le_refl _)), I1.lt⟩
  have e1 : lo + ((0 : Nat) : Int) * 1 = lo := by simp
  have e2 : (((hi - lo).toNat : Nat) : Int) - ((0 : Nat) : Int) = Builtin.Range.rangeSize lo hi 1 := by rw [rangeSize_one]; split <;> omega
  show IsRangeIter _ _ (lo + ((0 : Nat) : Int) * 1) ((((hi - lo).toNat : Nat) : Int) - ((0 : Nat) : Int)) 1
  rw [e1, e2]
  exact Heap.get?_push_size _ rfl
theorem rge1 {a : Expr} {ta : TA} {q pos : Pos} {σ : L2.St} {j : Int} (hg : Gl X "range") (hm : X.mg "range" = none) (ha : PA X [a] ta) (hv : ∀ H, ta σ H fun vs _ => vs = [.int j]) (h3 : -(2 ^ 62) ≤ j) (h4 : j < 2 ^ 62) (hs : starEach [a] X.env = [(false, eval a X.env)] := by rfl) :
    RgE X (.Call (.Name "range" q) [a] [] pos) σ 0 j.toNat := by
  refine ⟨fun pins s H I => ?_⟩
  refine Call_ (ld_blt I hg hm boot_range (PyProof.Rows.callWith_type1 (thn (ha.run pos pins s σ H _ I (hv H)) fun us s1 ⟨vs, H1, I1, r1, q1⟩ => ?_) hs rfl))
  subst q1
  cases r1 with
  | cons r rr =>
    cases rr
    obtain ⟨t, rfl⟩ := r
    have := rgi (E := X.xe) (lo := 0) (hi := j) (t := s1.toks) (u := t) (v := s1.toks + 1) (tk := s1.toks + 1 + 1) I1 (by omega) (by omega) h3 h4
    rw [show j - 0 = j by omega] at this
    exact call_range_1 this
theorem rge2 {a b : Expr} {ta : TA} {q pos : Pos} {σ : L2.St} {i j : Int} (hg : Gl X "range") (hm : X.mg "range" = none) (ha : PA X [a, b] ta) (hv : ∀ H, ta σ H fun vs _ => vs = [.int i, .int j]) (h1 : -(2 ^ 62) ≤ i) (h2 : i < 2 ^ 62) (h3 : -(2 ^ 62) ≤ j) (h4 : j < 2 ^ 62)
    (hs : starEach [a, b] X.env = [(false, eval a X.env), (false, eval b X.env)] := by rfl) (hs2 : starEach [b] X.env = [(false, eval b X.env)] := by rfl) :
    RgE X (.Call (.Name "range" q) [a, b] [] pos) σ i (j - i).toNat := by
  refine ⟨fun pins s H I => ?_⟩
  refine Call_ (ld_blt I hg hm boot_range (PyProof.Rows.callWith_type1 (thn (ha.run pos pins s σ H _ I (hv H)) fun us s1 ⟨vs, H1, I1, r1, q1⟩ => ?_) (by rw [hs, hs2]) (by rw [hs2]; rfl)))
  subst q1
  cases r1 with
  | cons r rr =>
    cases rr with
    | cons r' rr =>
      cases rr
      obtain ⟨t, rfl⟩ := r
      obtain ⟨t', rfl⟩ := r'
      exact call_range_2 (rgi I1 h1 h2 h3 h4)
end
/-! ### the windows, in order -/
def wlen (many size at_ : Nat) : Nat := min size (many - at_)
def winsAt (many size at_ k : Nat) : List (Int × Int) := (List.range' k (wlen many size at_ - k)).map fun l => ((at_ : Int), ((l + 1 : Nat) : Int))
def winsFrom (many size i : Nat) : List (Int × Int) := (List.range' i (many - i)).flatMap fun a => winsAt many size a 0
def wins (many size : Nat) : List (Int × Int) := winsFrom many size 0
theorem winsFrom_step {many size i : Nat} (h : i < many) : winsFrom many size i = winsAt many size i 0 ++ winsFrom many size (i + 1) := by
  unfold winsFrom
  rw [show many - i = (many - (i + 1)) + 1 by omega, List.range'_succ, List.flatMap_cons]
theorem winsFrom_end {many size i : Nat} (h : many ≤ i) : winsFrom many size i = [] := by
  unfold winsFrom
  rw [show many - i = 0 by omega]; rfl
theorem winsAt_step {many size i k : Nat} (h : k < wlen many size i) : winsAt many size i k = ((i : Int), ((k + 1 : Nat) : Int)) :: winsAt many size i (k + 1) := by
  unfold winsAt
  rw [show wlen many size i - k = (wlen many size i - (k + 1)) + 1 by omega, List.range'_succ, List.map_cons]
theorem winsAt_end {many size i k : Nat} (h : wlen many size i ≤ k) : winsAt many size i k = [] := by
  unfold winsAt
  rw [show wlen many size i - k = 0 by omega]; rfl
theorem drop_head {α : Type} {l : List α} {j : Nat} {x : α} {r : List α} (h : l.drop j = x :: r) : j < l.length ∧ l[j]? = some x ∧ l.drop (j + 1) = r := by
  have h1 : j < l.length := by
    refine Nat.lt_of_not_le fun h2 => ?_
    rw [List.drop_eq_nil_of_le h2] at h; cases h
  rw [List.drop_eq_getElem_cons h1] at h
  injection h with h2 h3
  exact ⟨h1, by rw [List.getElem?_eq_getElem h1, h2], h3⟩
abbrev teW : TE := tTup (tCons (tVar 2) (tCons (tVar 3) tNil))
/-- the loops hand out the windows -/
theorem wins_run {p : Par} {it1 it2 : Expr} {many size : Nat} (hit : p.items = wins many size)
    (h1 : ∀ sw (x y z : Option V), RgE (p.G sw) it1 [some (.int (many : Nat)), x, y, z] 0 many)
    (h2 : ∀ sw (a : Nat) (z : Option V), a < many → RgE (p.G sw) it2 [some (.int (many : Nat)), some (.int (size : Nat)), some (.int (a : Nat)), z] 1 (wlen many size a)) :
    tForR p it1 2 (tForR p it2 3 (tYield2 p teW)) (fun j _ => j = p.items.length) 0 [some (.int (many : Nat)), some (.int (size : Nat)), none, none] := by
  refine ⟨0, many, fun sw => h1 sw _ _ _, fun k j σ => j ≤ p.items.length ∧ p.items.drop j = winsFrom many size k ∧ ∃ y z : Option V, σ = [some (.int (many : Nat)), some (.int (size : Nat)), y, z], ⟨Nat.zero_le _, by rw [hit]; rfl, none, none, rfl⟩, ?_, ?_⟩
  · rintro k j σ hk ⟨hj, hd, y, z, rfl⟩
    rw [winsFrom_step hk] at hd
    rw [Int.zero_add]
    refine ⟨1, wlen many size k, fun sw => h2 sw k _ hk, fun l j σ => j ≤ p.items.length ∧ p.items.drop j = winsAt many size k l ++ winsFrom many size (k + 1) ∧ ∃ z : Option V, σ = [some (.int (many : Nat)), some (.int (size : Nat)), some (.int (k : Nat)), z], ⟨hj, hd, z, rfl⟩, ?_, ?_⟩
    · rintro l j σ hl ⟨hj, hd, z, rfl⟩
      rw [winsAt_step hl, List.cons_append] at hd
      obtain ⟨q1, q2, q3⟩ := drop_head hd
      refine ⟨q1, fun H => ?_, q1, q3, _, rfl⟩
      refine ⟨_, rfl, _, rfl, (by show 2 ≤ sizeLine; decide), fun T hT => ⟨T, (k : Int), 1 + (l : Int), rfl, upd_same, ?_⟩⟩
      rw [q2]
      congr 2
      push_cast
      omega
    · rintro j σ ⟨hj, hd, z, rfl⟩
      rw [winsAt_end (Nat.le_refl _), List.nil_append] at hd
      exact ⟨hj, hd, _, _, rfl⟩
  · rintro j σ ⟨hj, hd, _⟩
    rw [winsFrom_end (Nat.le_refl _)] at hd
    have := List.drop_eq_nil_iff.mp hd
    omega
end DG

set_option Elab.async false
set_option linter.all false
set_option autoImplicit false
set_option maxRecDepth 100000
set_option maxHeartbeats 4000000
/-! Generators: a generator def is called. -/
namespace DG
open PySem PySem.Spec PyProof.Rows L2 GenW DH
/-- what a run of the generator leaves as it was at its wake -/
structure Kept (outer : List Env) (L : Nat) (s₀ s : Shared) : Prop where
  os : s.os = s₀.os
  bare : AllBare s.gens
  old : ∀ b o, (b : Nat) < L → s₀.heap.get? b = some o → b ∉ frs outer → s.heap.get? b = some o
  slot : ∀ b o, (b : Nat) < L → s₀.heap.get? b = some o → b ∈ frs outer → ∃ sl, s.heap.get? b = some { o with slots := sl }
  seq : ∀ b o, L ≤ (b : Nat) → s₀.heap.get? b = some o → isSeqO o → s.heap.get? b = some o
def YC (P : Program) (w : World) (base : Heap) (outer : List Env) (os : OsState) (L : Nat) (items : List (Int × Int)) (a : Addr) (g : Nat) : Protocol := fun n s₀ v s kap =>
  ∃ (j : Nat) (T : Addr) (x y : Int) (own : List Addr), n + 1 + j = items.length ∧ items[j]? = some (x, y) ∧ v = .ref T ∧ Kept outer L s₀ s ∧ s.heap.IsGen a g ∧
    (∀ o, s₀.heap.get? T = some o → L ≤ (T : Nat) ∧ ¬ isSeqO o) ∧ (∀ H, ObjOk P w H s.heap T (.tup [.int x, .int y])) ∧ a ∈ own ∧ (∀ b ∈ own, L ≤ (b : Nat) ∧ ∃ o, s.heap.get? b = some o ∧ ¬ isSeqO o ∧ ∀ v, o.data ≠ .cell v) ∧ ∀ s', Wk base outer os own s s' → kap (.send .none) s'
def RC (outer : List Env) (L : Nat) : GenEnd := fun n s₀ r s1 => ((r = .ok (.ret .none) ∨ r = .ok .next) ∧ Kept outer L s₀ s1 ∧ n = 0) ∨ ∃ e, r = .error e ∧ False
/-- a generator that has not begun -/
def GMadeW (P : Program) (w : World) (base : Heap) (k : Nat) (outer : List Env) (s : Shared) (items : List (Int × Int)) (u : Value) (s' : Shared) : Prop :=
  ∃ (a : Addr) (g : Nat) (c : Code), u = .ref a ∧ s'.heap.IsGen a g ∧ s'.gens[g]? = some (.fresh c) ∧ s'.os = s.os ∧ AllBare s'.gens ∧ s'.heap.NoLimit ∧ (∀ b o, s.heap.get? b = some o → s'.heap.get? b = some o) ∧
    (∀ b ∈ [s.heap.objs.size, a], s.heap.objs.size ≤ b ∧ ∃ o, s'.heap.get? b = some o ∧ ¬ isSeqO o ∧ ∀ v, o.data ≠ .cell v) ∧
    ∀ (A : Around) (s2 : Shared), Room k A → A.frames = some outer → Wk base outer s.os [s.heap.objs.size, a] s' s2 →
      Seg (model P w) A (RC outer s.heap.objs.size) (YC P w base outer s.os s.heap.objs.size items a g) items.length s2 c ((model P w).den c) [] s2
structure GWFn (P : Program) (w : World) (K : PySem.W.Frag) (mg : Str → Option Value) (base : Heap) (k : Nat) (f : Addr) (fd : FuncData) (ps : List Str) : Prop where
  run : ∀ (A : Around) (outer : List Env) (s : Shared) (H : Hp) (args : Args) (us : List Value) (many size : Nat), Room k A → Env0 P w K mg base A outer s H → BindsTo s fd args (ps.zip us) → Vals [.int (many : Nat), .int (size : Nat)] us → many ≤ 1000 → size ≤ 1000 →
    codeAny (model P w) A (.call (.ref f) args) (fun r s' => match r with | .ok (.ret u) => GMadeW P w base k outer s (wins many size) u s' | _ => False) s
/-- what the generator's own invariant tells of its run -/
theorem kept_of {p : Par} {s₀ s : Shared} {pw ip : List (Addr × Obj)} {σ : L2.St} {H : Hp} (I : Inv (p.G s₀) (pw ++ ip) σ H s) (cov : Cov s₀ p.L pw) : Kept p.outer p.L s₀ s where
  os := I.os
  bare := I.bare
  old := fun b o hb e hf => I.base.keep b o (to_trunc hb e) rfl hf (by simp [gcx])
  slot := fun b o hb e hf => I.base.slot b o (to_trunc hb e) rfl hf (by simp [gcx])
  seq := fun b o hb e hs => (I.pin (b, o) (by show _ ∈ [] ++ (pw ++ ip); simp [cov.1 b o e hb hs])).1
theorem gwfn_of {P : Program} {w : World} {K : PySem.W.Frag} {mg : Str → Option Value} {base : Heap} {k : Nat} {f : Addr} {name qual : Str} {params : Arguments} {body : List Stmt} {scope : Scope} {dV kV doc pm cdv ct oc : Value} {an od : Option Addr}
    {osl : Array (Option Value)} {N ps : List Str} (lk : K.lookup f = some ⟨oc, od, .func (PySem.W.fnOf name qual params body scope dV kV doc pm an cdv ct), osl⟩) (hcd : PySem.W.codeIn K cdv qual = true) (S : GScope N ps scope) (hps : ps.length = 2) (hN : N.length = 4)
    (hcells : ∀ L, cellsFrom L scope.names [] = [])
    (hbody : ∀ (p : Par) (many size : Nat), p.Ok → p.P = P → p.w = w → p.K = K → p.mg = mg → p.N = N → p.scope = scope → p.qual = qual → p.f = f → p.cd = cdv → p.items = wins many size → many ≤ 1000 → size ≤ 1000 → Room k (p.A.deeper p.env) →
      ∃ t, GSs2 p body t ∧ t (fun j _ => j = p.items.length) 0 [some (.int (many : Nat)), some (.int (size : Nat)), none, none]) :
    GWFn P w K mg base (k + 1) f (PySem.W.fnOf name qual params body scope dV kV doc pm an cdv ct) ps := by
  refine ⟨fun A outer s H args us many size hr e0 hb r hm hz => ?_⟩
  have hl : ([.int (many : Nat), .int (size : Nat)] : List V).length = ps.length := by rw [hps]; rfl
  have KX : K.In s.heap := e0.mod.kin.keeps fun b o e => (e0.bs b o e).1
  have lim : s.heap.NoLimit := e0.mod.nolimit.keeps fun b o e => (e0.bs b o e).1
  have hkind : ∀ y ∈ ps.zip us, scope.names.lookup y.1 = some .local ∨ (scope.names.lookup y.1 = some .cell ∧ ((cellsFrom (s.heap.objs.size + 1) scope.names []).lookup y.1).isSome = true) := fun ⟨n, v⟩ hy => by
    rcases S.par n (List.of_mem_zip hy).1 with q | q
    · exact .inl q
    · exact .inr ⟨q, PySem.W.cellsFrom_some _ _ _ (.inl q)⟩
  refine codeAny_call_generator hr.depth (KX _ _ lk) rfl S.co S.gen rfl (PySem.W.codeRec_of KX hcd) (hb _ _ _ _ ?_)
  refine wpAny_newFunctionEnv_cells S.kind hkind fun env he s1 x => ?_
  subst he
  have lim1 : s1.heap.NoLimit := lim.keeps x.toInCall.keep
  refine ⟨lim1, ?_⟩
  obtain ⟨h1, tk, es1, hk1⟩ := x.done
  have os1 : s1.os = s.os := by rw [es1]
  have gen1 : s1.gens = s.gens := by rw [es1]
  have lt1 : (s.heap.objs.size : Nat) < s1.heap.objs.size := x.toInCall.ns.lt
  have kp1 : ∀ b o, s.heap.get? b = some o → s1.heap.get? b = some o := x.toInCall.keep
  have main : ∀ (go : Obj) (nm qn : Value) (tk2 : Nat), go.cls = .type "generator" → go.data = .fields #[.int s1.gens.size 0, nm, qn] → go.slots = #[] → (∀ h : Heap, (h.push go).get? h.objs.size = some go) →
      GMadeW P w base (k + 1) outer s (wins many size) (.ref s1.heap.objs.size) { s1 with gens := s1.gens.push (.fresh (.func body (envOfC qual scope s.heap.objs.size f cdv))), toks := tk2, heap := s1.heap.push go } := by
    intro go nm qn tk2 hgc hgd0 hgs hgp
    have hgen : ∀ h : Heap, h.get? s1.heap.objs.size = some go → h.IsGen s1.heap.objs.size s1.gens.size := fun h e => ⟨go, nm, qn, e, hgc, hgd0, hgs⟩
    have hpushed : (s1.heap.push go).get? s1.heap.objs.size = some go := hgp _
    have goS : ¬ isSeqO go := fun ⟨_, _, q⟩ => by rw [hgd0] at q; cases q
    have goC : ∀ v, go.data ≠ .cell v := fun v q => by rw [hgd0] at q; cases q
    obtain ⟨oL, es, ep, eL, dL, rL⟩ := id x.toInCall.ns
    have oLS : ¬ isSeqO oL := fun ⟨_, _, q⟩ => by rw [dL] at q; cases q
    have oLC : ∀ v, oL.data ≠ .cell v := fun v q => by rw [dL] at q; cases q
    have eL2 : (s1.heap.push go).get? s.heap.objs.size = some oL := Heap.get?_push_of_some _ eL
    refine ⟨s1.heap.objs.size, s1.gens.size, _, rfl, hgen _ hpushed, Array.getElem?_push_size .., os1, ?_, lim1.keeps fun b o e => Heap.get?_push_of_some _ e, fun b o e => Heap.get?_push_of_some _ (kp1 b o e), fun b hb => ?_, ?_⟩
    · exact AllBare.push (by rw [gen1]; exact e0.bare) rfl
    · simp only [List.mem_cons, List.not_mem_nil, or_false] at hb
      rcases hb with rfl | rfl
      · exact ⟨Nat.le_refl _, oL, eL2, oLS, oLC⟩
      · exact ⟨Nat.le_of_lt lt1, go, hpushed, goS, goC⟩
    intro Aw s2 hrw hfr wk
    have e0w : Env0 P w K mg base Aw outer s H := ⟨hfr, e0.mod, e0.bs, e0.bsz, e0.funs, e0.frf, e0.hok, e0.bare⟩
    have I1 : Inv (gcxOf P w K mg base N qual scope f cdv Aw outer s H (fun _ _ _ => False) []) [] (start N [.int (many : Nat), .int (size : Nat)]) H s1 := inv_startG S hrw.hd e0w hl r x
    have hst : L2.start N ([.int (many : Nat), .int (size : Nat)] : List V) = [some (.int (many : Nat)), some (.int (size : Nat)), none, none] := by
      unfold L2.start
      rw [hN]; rfl
    rw [hst] at I1
    have hcl : ∀ y, (envOfC qual scope s.heap.objs.size f cdv).cells.lookup y = none := fun y => by
      show (cellsFrom (s.heap.objs.size + 1) scope.names []).lookup y = none
      rw [hcells]; rfl
    have hfrs : ∀ b ∈ frs outer, (b : Nat) < s.heap.objs.size := fun b hb => by
      obtain ⟨_, o, ho, _⟩ := e0.funs.mem hb
      exact Heap.lt_size ho
    let p : Par := ⟨P, w, K, mg, base, N, qual, scope, f, cdv, Aw, outer, s.heap.objs.size, s.os, wins many size, (s1.heap.objs.size, go)⟩
    have ok : p.Ok := ⟨hcl, hfrs, e0.bsz, hfr⟩
    obtain ⟨m, ⟨oL', es', ep', eL', dL', rL'⟩, hlk⟩ := I1.loc
    have eL' : s1.heap.get? s.heap.objs.size = some oL' := eL'
    have keepL : ∀ o, s1.heap.get? s.heap.objs.size = some o → s2.heap.get? s.heap.objs.size = some o := fun o e => wk.own _ (by simp) o (Heap.get?_push_of_some _ e)
    obtain ⟨cov, I2⟩ := wakeInv0 (P := P) (w := w) (K := K) (mg := mg) (base := base) (N := N) (qual := qual) (scope := scope) (f := f) (cd := cdv) (A := Aw) (outer := outer) (L := s.heap.objs.size) (s' := s2) (os := s.os) (ip := [(s1.heap.objs.size, go)]) (σ := [some (.int (many : Nat)), some (.int (size : Nat)), none, none])
      e0.mod S.kind hfr hrw.hd I1.ok.has hcl hfrs e0.bsz I1.len wk.bare wk.bs wk.funs ⟨m, ⟨oL', es', ep', keepL _ eL', dL', rL'⟩, fun i y v h1 h2 h3 => (by
        obtain ⟨u, rv, lk⟩ := hlk i y v h1 h2 h3
        refine ⟨u, rv, ?_⟩
        rcases lk with lk | ⟨_, c, e, _⟩
        · exact .inl lk
        · have e : (envOfC qual scope s.heap.objs.size f cdv).cells.lookup y = some c := e
          rw [hcl] at e; cases e)⟩ fun q hq => (by
        rw [List.mem_singleton.mp hq]
        exact ⟨wk.own _ (by simp) _ hpushed, lt1, goC⟩)
    obtain ⟨t, ht, hq⟩ := hbody p many size ok rfl rfl rfl rfl rfl rfl rfl rfl rfl rfl hm hz (hrw.deeper _)
    have ipOk : OwnP p [(s1.heap.objs.size, go)] := ⟨fun q hq => (by
      rw [List.mem_singleton.mp hq]
      exact ⟨lt1, goS⟩), List.mem_singleton.mpr rfl⟩
    refine seg_func ?_
    refine seg_imp (R := RC outer s.heap.objs.size) (Y := p.Y) (fun n s₀ r s1' hR => hR) (fun n s₀ v s1' kap kap' hkk hY => ?_) (wins many size).length ?_
    · obtain ⟨j, T, xa, ya, pw, ip, σ, H1, hn, hj, hv, hT, I, cov', own, kk⟩ := hY
      have pinGo := I.pin (s1.heap.objs.size, go) (by show _ ∈ [] ++ (pw ++ ip); have := own.2; simp; exact .inr this)
      obtain ⟨m', ⟨oM, esM, epM, eM, dM, rM⟩, _⟩ := I.loc
      have eM : s1'.heap.get? s.heap.objs.size = some oM := eM
      refine ⟨j, T, xa, ya, s.heap.objs.size :: ip.map (·.1), hn, hj, hv, kept_of I cov', hgen _ pinGo.1, fun o e => ?_, fun H2 => ?_, ?_, fun b hb => ?_, fun s' z => hkk _ _ (kk s' z)⟩
      · by_cases hlt : (T : Nat) < s.heap.objs.size
        · have := I.base.free T o (to_trunc hlt e) rfl (by simp [gcx])
          rw [hT] at this; cases this
        · refine ⟨Nat.le_of_not_lt hlt, fun hs => ?_⟩
          have := (I.pin (T, o) (by show _ ∈ [] ++ (pw ++ ip); simp [cov'.1 T o e (Nat.le_of_not_lt hlt) hs])).2.1
          rw [hT] at this; cases this
      · exact (I.hok T _ hT)
      · exact List.mem_cons_of_mem _ (List.mem_map.mpr ⟨_, own.2, rfl⟩)
      · rcases List.mem_cons.mp hb with rfl | hb
        · exact ⟨Nat.le_refl _, oM, eM, fun ⟨_, _, q⟩ => (by rw [dM] at q; cases q), fun v q => (by rw [dM] at q; cases q)⟩
        · obtain ⟨q, hq, rfl⟩ := List.mem_map.mp hb
          have pq := I.pin q (by show _ ∈ [] ++ (pw ++ ip); simp [hq])
          exact ⟨Nat.le_of_lt (own.1 q hq).1, q.2, pq.1, (own.1 q hq).2, pq.2.2.2.2⟩
    · refine ht.run Aw _ (wins many size).length 0 s2 _ [] _ _ id id s2 _ (fun j _ => j = p.items.length) _ [(s1.heap.objs.size, go)] _ ⟨over_func, rfl, rfl, rfl⟩ (Nat.add_zero _) (fun n j s₀ s' pw σ H' hn cov' I' hj => ?_) cov ipOk I2 hq
      have hj : j = (wins many size).length := hj
      have hn : n + j = (wins many size).length := hn
      exact seg_end (.ok (.ret .none)) (.inl ⟨.inl rfl, kept_of I' cov', by omega⟩)
  exact main _ _ _ _ rfl rfl rfl fun h => Heap.get?_push_size _ rfl
end DG

set_option Elab.async false
set_option linter.all false
set_option autoImplicit false
set_option maxRecDepth 100000
set_option maxHeartbeats 4000000
/-! Generators: the for that walks one and puts all behind a list. -/
namespace DG
open PySem PySem.Spec PyProof.Rows L2 GenW DH
section
variable {X : Cx} {pins : List (Addr × Obj)} {σ : L2.St} {H : Hp} {s : Shared}
/-- a local name is stored; what changed -/
theorem store_local {E : Value → Shared → Prop} {i : Nat} {x : Str} {pos : Pos} {v : V} {u : Value} {Q : Unit → Shared → Prop} (I : Inv X pins σ H s) (hN : X.N.Nodup) (hi : X.N[i]? = some x) (hk : X.env.kindOf x = some .local) (r : RelV v u)
    (h : ∀ s', Inv X pins (σ.set i (some v)) H s' → s'.gens = s.gens → (∀ b, b ≠ X.env.locals → s'.heap.get? b = s.heap.get? b) → Q () s') : wpAny (model X.prog X.w) X.A (assign (.Name x pos) X.env u) Q E s := by
  refine wpAny_assign_Name ?_
  obtain ⟨m, hn, hl⟩ := id I.loc
  have hcls : (X.env.scope.kind == .class || (X.env.scope.kind == .module && X.env.locals != X.env.globals)) = false := by rw [I.ok.kind]; rfl
  have hiσ : i < σ.length := by rw [I.len]; exact (List.getElem?_eq_some_iff.mp hi).1
  have cne := I.cne
  refine wpAny_storeName_local hk hn (fun h' hn' hs => ?_) hcls
  obtain ⟨oL, _, _, hoL, _⟩ := id hn
  refine h _ ⟨I.ok, I.os, I.bare, ⟨fun b o e n hb hx => ?_, fun b o e n hb hx => ?_, I.base.free, fun b o e hx => ?_, I.base.tups, I.base.frzs, I.base.tbls⟩, ⟨_, hn', fun j y v' e1 e2 e3 => ?_⟩, fun y c e => ?_, I.free, I.freeC, fun p hp => ?_, fun b ob e => ?_, by simpa using I.len⟩ rfl fun b hb => hs.2 b hb
  · exact (hs.2 b (Nat.ne_of_lt (Nat.lt_of_lt_of_le (Heap.lt_size e) I.ok.above))).trans (I.base.keep b o e n hb hx)
  · obtain ⟨sl, e1⟩ := I.base.slot b o e n hb hx
    exact ⟨sl, (hs.2 b (Nat.ne_of_lt (Nat.lt_of_lt_of_le (Heap.lt_size e) I.ok.above))).trans e1⟩
  · obtain ⟨o', e1⟩ := I.base.there b o e hx
    exact ⟨o', (hs.2 b (Nat.ne_of_lt (Nat.lt_of_lt_of_le (Heap.lt_size e) I.ok.above))).trans e1⟩
  · by_cases hj : j = i
    · subst hj
      rw [hi] at e1; cases e1
      rw [List.getElem?_set_self hiσ] at e2
      cases e2
      exact ⟨u, r, .inl ⟨hk, by simp⟩⟩
    · rw [List.getElem?_set_ne (Ne.symm hj)] at e2
      obtain ⟨u', r', q⟩ := hl j y v' e1 e2 e3
      refine ⟨u', r', ?_⟩
      rcases q with ⟨k, e⟩ | ⟨k, c, e, z⟩
      · refine .inl ⟨k, ?_⟩
        have : y ≠ x := fun e => hj (nodup_ix hN e1 (e ▸ hi))
        simp [this, e]
      · exact .inr ⟨k, c, e, z.sameBut hs (cne y c e)⟩
  · obtain ⟨w', z⟩ := I.cell y c e
    exact ⟨w', z.sameBut hs (cne y c e)⟩
  · obtain ⟨e, n, ne, nf, d⟩ := I.pin p hp
    exact ⟨(hs.2 p.1 ne).trans e, n, ne, nf, d⟩
  · refine (I.hok b ob e).stay (fun c w' hc q => (hs.2 c ?_).trans q) (fun _ q => q) fun _ _ q => q
    rintro rfl
    rcases hc with rfl | hc
    · rw [I.free] at e; cases e
    · rw [I.free] at hc; cases hc
/-- a local name is read -/
theorem load_local {E : Value → Shared → Prop} {i : Nat} {x : Str} {pos : Pos} {v : V} {Q : Value → Shared → Prop} (I : Inv X pins σ H s) (hi : X.N[i]? = some x) (hk : X.env.kindOf x = some .local) (hv : σ[i]? = some (some v)) (hd : (x == ("__debug__" : Str)) = false)
    (h : ∀ u, RelV v u → Q u s) : wpAny (model X.prog X.w) X.A (eval (.Name x pos) X.env) Q E s := by
  obtain ⟨m, hn, hl⟩ := I.loc
  obtain ⟨u, r, l⟩ := hl i x v hi hv (.inl hk)
  rcases l with ⟨_, hm⟩ | ⟨hk', _⟩
  · exact wpAny_Name (wpAny_loadName_local I.ok.kind hk hn hm (h u r)) hd
  · rw [hk] at hk'
    rcases hk' with z | z <;> cases z
/-- told.append(x) -/
theorem append_step {E : Value → Shared → Prop} {i j : Nat} {told x : Str} {p1 p2 apos cpos epos : Pos} {q : Addr} {zs : List V} {v : V} {Q : Flow → Shared → Prop} (I : Inv X pins σ H s) (hi : X.N[i]? = some told) (hki : X.env.kindOf told = some .local) (hj : X.N[j]? = some x) (hkj : X.env.kindOf x = some .local)
    (hq : σ[i]? = some (some (.ref q))) (hH : H q = some (.lst zs)) (hz : zs.length < sizeLine) (hv : σ[j]? = some (some v))
    (hdi : (told == ("__debug__" : Str)) = false) (hdj : (x == ("__debug__" : Str)) = false)
    (hsw : swapsWith (.Call (.Attribute (.Name told p1) "append" apos) [.Name x p2] [] cpos) none epos.line X.env = pure false)
    (hbase : attributeBase (.Name told p1) "append" X.env (eval (.Name told p1) X.env) = eval (.Name told p1) X.env)
    (hfew : ((backTo cpos (starEach [.Name x p2] X.env)).all (fun x => !x.1) && (backToKw cpos (keywordEach [] X.env)).all (fun x => x.1.isSome)
      && decide (([.Name x p2] : List Expr).length + ([] : List Keyword).length + (if ([] : List Keyword).isEmpty then 0 else 1) < 30)) = true)
    (hline : (apos.endLine == cpos.line) = true) (htrees : backTo cpos (starEach [.Name x p2] X.env) = [(false, eval (.Name x p2) X.env)])
    (h : ∀ s', Inv X pins σ (upd H q (.lst (zs ++ [v]))) s' → s'.gens = s.gens → (∀ b, b ≠ q → s'.heap.get? b = s.heap.get? b) → Q .next s') :
    wpAny (model X.prog X.w) X.A (exec (.Expr (.Call (.Attribute (.Name told p1) "append" apos) [.Name x p2] [] cpos) epos) X.env) Q E s := by
  refine wpAny_Expr_any ?_ I.quiet hsw
  obtain ⟨hzl, its, n, rz, ho⟩ := I.hok q _ hH
  refine wpAny_Call_append hbase hfew hline htrees ?_
  refine load_local I hi hki hq hdi fun u ru => ?_
  have ru : u = .ref q := ru
  refine ⟨q, its.toArray, ru, ⟨_, n, ho, rfl, rfl, rfl⟩, ?_⟩
  refine load_local I hj hkj hv hdj fun y ry => ?_
  have hpl : PlainL s.heap q its.toArray := ⟨_, n, ho, rfl, rfl, rfl⟩
  refine wpAny_call_entry slot_list_append hpl.isList.typeIs entry_list_append ?_ (args_list_append _ _)
  show wpAny _ _ (updateSeq q (·.push y) >>= fun _ => ret .none) _ _ s
  have el := rz.length
  refine wpAny_bind (wpAny_updateSeq ho rfl (wpAny_pure ⟨.none, rfl, ?_⟩) (by show its.toArray.size ≤ sizeLine; rw [List.size_toArray]; omega) (by show (its.toArray.push y).size ≤ sizeLine + 1; rw [Array.size_push, List.size_toArray]; omega))
  obtain ⟨n', hn'⟩ : ∃ n', (s.heap.update q (Obj.mapSeq (·.push y))).get? q = some { cls := .type "list", data := .seq (its.toArray.push y) n' } := ⟨_, Heap.get?_update_self _ ho rfl⟩
  refine h _ (I.write (t' := s.toks) (e := q) (by rw [hH]; trivial) (.inl rfl) (fun b u hb e => (Heap.get?_update_other _ _ (Ne.symm hb)).trans e) ⟨_, hn'⟩ ?_) rfl fun b hb => Heap.get?_update_other _ _ (Ne.symm hb)
  refine ⟨by rw [List.length_append]; show zs.length + 1 ≤ sizeLine; omega, its ++ [y], n', rz.append (.cons ry .nil), ?_⟩
  rw [hn']
  congr 3
  simp
end
end DG

set_option Elab.async false
set_option linter.all false
set_option autoImplicit false
set_option maxRecDepth 100000
set_option maxHeartbeats 4000000
/-! Generators: the for that walks one and puts all behind a list: the loop. -/
namespace DG
open PySem PySem.Spec PyProof.Rows L2 GenW DH
section
variable {X : Cx} {pins : List (Addr × Obj)} {σ : L2.St} {H : Hp} {s : Shared}
/-- what is tracked from L on is a tuple -/
def TupsUp (L : Nat) (H : Hp) : Prop := ∀ (b : Addr) u, L ≤ (b : Nat) → H b = some u → ∃ xs, u = .tup xs
theorem seq_of_tup {P : Program} {w : World} {H : Hp} {h : Heap} {a : Addr} {xs : List V} (x : ObjOk P w H h a (.tup xs)) : ∃ o, h.get? a = some o ∧ isSeqO o := by
  obtain ⟨_, its, _, o, e, _, _, d⟩ := x
  exact ⟨o, e, its.toArray, _, d⟩
theorem obj_ex {P : Program} {w : World} {H : Hp} {h : Heap} {a : Addr} {o : HO} (x : ObjOk P w H h a o) : ∃ u, h.get? a = some u := by
  cases o with
  | lst xs => obtain ⟨_, _, _, _, e⟩ := x; exact ⟨_, e⟩
  | tup xs => obtain ⟨o, e, _⟩ := seq_of_tup x; exact ⟨o, e⟩
  | dK kvs => obtain ⟨_, _, _, _, o, _, _, e, _⟩ := x; exact ⟨_, e⟩
  | dT kvs => obtain ⟨_, _, _, _, o, _, _, e, _⟩ := x; exact ⟨_, e⟩
  | set S n => obtain ⟨o, _, _, _, e, _⟩ := x; exact ⟨_, e⟩
  | ins C dx fs => obtain ⟨_, _, _, e, _⟩ := x; exact ⟨_, e⟩
  | own y => exact x
  | xd fs => obtain ⟨_, ⟨_, _, _, e, _⟩, _⟩ := x; exact ⟨_, e⟩
  | rng lo hi => obtain ⟨_, _, _, e⟩ := x; exact ⟨_, e⟩
  | frz ob u => exact ⟨_, x.1⟩
  | tbl ps => exact ⟨_, x⟩
  | met f y => exact ⟨_, x⟩
  | ext φ => obtain ⟨_, ⟨o, e⟩, _⟩ := x; exact ⟨o, e⟩
/-- behind a run of the generator, nothing handed out -/
theorem back_inv {L : Nat} {s1 : Shared} (I : Inv X pins σ H s) (hup : TupsUp L H) (hL1 : X.s_0.heap.objs.size ≤ L) (hL2 : (X.env.locals : Nat) < L) (hLc : ∀ x c, X.env.cells.lookup x = some c → (c : Nat) < L) (hLp : ∀ p ∈ X.pn ++ pins, (p.1 : Nat) < L) (hst : ∀ b ∈ frs X.stack, (b : Nat) < L)
    (k : Kept X.stack L s s1) {H' : Hp} (hok : HOk X.prog X.w H' s1.heap) (hd : ∀ b, H b ≠ none → H' b = H b) (hn : ∀ b o, s.heap.get? b = some o → (b : Nat) < L → H b = none → H' b = none) : Inv X pins σ H' s1 := by
  refine I.call' (ch := (List.range s.heap.objs.size).filter fun b => decide (L ≤ b) && (H b).isNone) (k.os) ⟨fun b o e n hf hc => ?_, fun b o e n hf hc => ?_, fun b o e n hc => ?_, fun b o e hc => ?_, fun b xs e => ?_, fun b o u e => ?_, fun b ps e => ?_⟩ hok k.bare fun b hb => ?_
  · have hlt : (b : Nat) < L := Nat.lt_of_not_le fun z => hc (List.mem_filter.mpr ⟨List.mem_range.mpr (Heap.lt_size e), by simp [n]; exact z⟩)
    exact k.old b o hlt e hf
  · have hlt : (b : Nat) < L := hst b hf
    exact k.slot b o hlt e hf
  · have hlt : (b : Nat) < L := Nat.lt_of_not_le fun z => hc (List.mem_filter.mpr ⟨List.mem_range.mpr (Heap.lt_size e), by simp [n]; exact z⟩)
    exact hn b o e hlt n
  · by_cases hlt : (b : Nat) < L
    · by_cases hf : b ∈ frs X.stack
      · obtain ⟨sl, q⟩ := k.slot b o hlt e hf
        exact ⟨_, q⟩
      · exact ⟨o, k.old b o hlt e hf⟩
    · have hge := Nat.le_of_not_lt hlt
      cases q : H b with
      | none => exact absurd (List.mem_filter.mpr ⟨List.mem_range.mpr (Heap.lt_size e), by simp [q]; exact hge⟩) hc
      | some u =>
        obtain ⟨xs, rfl⟩ := hup b u hge q
        obtain ⟨o', e', hs⟩ := seq_of_tup (I.hok b _ q)
        exact ⟨o', k.seq b o' hge e' hs⟩
  · rw [hd b (by rw [e]; simp)]; exact e
  · rw [hd b (by rw [e]; simp)]; exact e
  · exact ⟨#[], by rw [hd b (by rw [e]; simp), e]; simp⟩
  · obtain ⟨h1, h2⟩ := List.mem_filter.mp hb
    simp at h2
    have hge : L ≤ (b : Nat) := h2.1
    refine ⟨.inr (Nat.le_trans hL1 hge), fun z => ?_, fun x c e z => ?_, fun p hp z => ?_⟩
    · rw [z] at hge; exact absurd hL2 (Nat.not_lt.mpr hge)
    · have := hLc x c e
      rw [z] at this; exact absurd this (Nat.not_lt.mpr hge)
    · have := hLp p hp
      rw [z] at this; exact absurd this (Nat.not_lt.mpr hge)
/-- the tracked objects after a run -/
theorem back_hok {L : Nat} {s1 : Shared} (I : Inv X pins σ H s) (hup : TupsUp L H) (k : Kept X.stack L s s1) : HOk X.prog X.w H s1.heap := fun b u e => by
  have keepT : ∀ c o, H c ≠ none → s.heap.get? c = some o → s1.heap.get? c = some o := fun c o hc q => by
    by_cases hlt : (c : Nat) < L
    · exact k.old c o hlt q fun hf => hc (I.stkFree c hf)
    · have hge := Nat.le_of_not_lt hlt
      cases z : H c with
      | none => exact absurd z hc
      | some u =>
        obtain ⟨xs, rfl⟩ := hup c u hge z
        obtain ⟨o', e', hs⟩ := seq_of_tup (I.hok c _ z)
        rw [q] at e'; cases e'
        exact k.seq c o hge q hs
  refine (I.hok b u e).stay (fun c o hc q => keepT c o ?_ q) (fun _ z => z) fun _ _ z => z
  rcases hc with rfl | hc
  · rw [e]; simp
  · rw [hc]; simp
end
section
variable {X : Cx} {k : Nat} {f : Addr} {fd : FuncData} {ps : List Str} {nm told v : Str} {i j : Nat} {ta : TA}
def tForW (ta : TA) (i j : Nat) : TS := fun D σ H => ta σ H fun vs H1 => ∃ (many size : Nat) (q : Addr) (xs : List V) (W : Nat → List V → Hp → Prop), vs = [.int (many : Nat), .int (size : Nat)] ∧ many ≤ 1000 ∧ size ≤ 1000 ∧ σ[i]? = some (some (.ref q)) ∧ H1 q = some (.lst xs) ∧
  xs.length + (wins many size).length < sizeLine ∧ W 0 xs H1 ∧
  (∀ n zs H T x y, (wins many size)[n]? = some (x, y) → W n zs H → H q = some (.lst zs) → H T = none → W (n + 1) (zs ++ [.ref T]) (upd (upd H T (.tup [.int x, .int y])) q (.lst (zs ++ [.ref T])))) ∧
  ∀ zs H' σ', W (wins many size).length zs H' → H' q = some (.lst zs) → (σ' = σ ∨ ∃ u, σ' = σ.set j (some u)) → D.nx σ' H'
theorem ps_forW {e : Expr} {es : List Expr} {p p1 p2 apos cpos epos pv pos pos' : Pos} (F : GWFn X.prog X.w X.K X.mg X.base k f fd ps) (hps : ps.length = 2) (hr : Room (k + 1) X.A) (hstk : X.stack = X.env :: X.outer) (hfm : X.env.frame = some X.env.locals) (hex : X.ex = [])
    (hg : Gl X nm) (hm : X.mg nm = some (.ref f)) (hkp : PySem.W.keepIn X.K (.ref f) = true) (hb : Binds X.K fd ps []) (ha : PA X (e :: es) ta) (hN : X.N.Nodup) (hij : i ≠ j) (hi : X.N[i]? = some told) (hki : X.env.kindOf told = some .local) (hj : X.N[j]? = some v) (hkj : X.env.kindOf v = some .local)
    (hdi : (told == ("__debug__" : Str)) = false) (hdj : (v == ("__debug__" : Str)) = false)
    (hsw : swapsWith (.Call (.Attribute (.Name told p1) "append" apos) [.Name v p2] [] cpos) none epos.line X.env = pure false)
    (hbase : attributeBase (.Name told p1) "append" X.env (eval (.Name told p1) X.env) = eval (.Name told p1) X.env)
    (hfew : ((backTo cpos (starEach [.Name v p2] X.env)).all (fun x => !x.1) && (backToKw cpos (keywordEach [] X.env)).all (fun x => x.1.isSome)
      && decide (([.Name v p2] : List Expr).length + ([] : List Keyword).length + (if ([] : List Keyword).isEmpty then 0 else 1) < 30)) = true)
    (hline : (apos.endLine == cpos.line) = true) (htrees : backTo cpos (starEach [.Name v p2] X.env) = [(false, eval (.Name v p2) X.env)])
    (hs : ∀ x, foldedSetIterable (.Call (.Name nm p) (e :: es) [] pos') X.env x = pure x := by intro _; rfl)
    (hdb : (nm == ("__debug__" : Str)) = false := by decide) (he : starEach (e :: es) X.env = (false, eval e X.env) :: starEach es X.env := by rfl) (hpl : (backTo pos' (starEach es X.env)).any (·.1) = false := by rfl) :
    PS X (.For (.Name v pv) (.Call (.Name nm p) (e :: es) [] pos') [.Expr (.Call (.Attribute (.Name told p1) "append" apos) [.Name v p2] [] cpos) epos] [] pos) (tForW ta i j) := by
  refine ⟨fun pins s σ H D I h => ?_⟩
  refine wpAny_For ?_ hs
  refine wpAny_Call_Name_kw (ld_glob I hg hm ?_ hdb)
  refine PySem.W.callWith_K (h₀ := X.base) I.ok.mod.kin hkp (thn (ha.run pos' pins s σ H _ I h) fun us sc ⟨vs, H1, I1, r, q⟩ => ⟨I1.kIn, ?_⟩) he hpl
  obtain ⟨many, size, q, xs, W, rfl, hm1, hs1, hσ, hq, hlen, W0, step, fin⟩ := q
  have hl2 : (us ++ []).length = ps.length := by rw [List.append_nil, ← r.length, hps]; rfl
  refine wpAny_call (codeAny_mono (F.run X.A X.stack sc H1 ⟨us, []⟩ (us ++ []) many size (hr.mono (Nat.le_succ k)) I1.env0 (hb sc us I1.kIn hl2) (by rw [List.append_nil]; exact r) hm1 hs1) fun rr s' hq' => ?_)
  cases rr with
  | error e => exact False.elim hq'
  | ok fl =>
  cases fl with
  | next => exact False.elim hq'
  | brk => exact False.elim hq'
  | cont => exact False.elim hq'
  | ret u =>
  obtain ⟨a, g, c, rfl, hgen, hgs, hos, hbare, hlim, hkeep, hown, wake⟩ := hq'
  refine wpAny_pyIter_gen hgen ?_
  generalize hL : sc.heap.objs.size = L at hown wake
  generalize hit : wins many size = items at hlen step fin wake
  have hfrs : ∀ b ∈ frs X.stack, (b : Nat) < L := fun b hb' => by
    rcases List.mem_cons.mp (I1.stkSub b hb') with z | z
    · rw [z, ← hL]; exact I1.lt
    · obtain ⟨_, o, ho, _⟩ := I1.funs.mem z
      rw [← hL]; exact Heap.lt_size ho
  have hL1 : X.s_0.heap.objs.size ≤ L := by rw [← hL]; exact I1.sz
  have hL2 : (X.env.locals : Nat) < L := by rw [← hL]; exact I1.lt
  have hLc : ∀ x c, X.env.cells.lookup x = some c → (c : Nat) < L := fun x c e => by
    obtain ⟨_, o, ho, _⟩ := I1.cell x c e
    rw [← hL]; exact Heap.lt_size ho
  have hLp : ∀ y ∈ X.pn ++ pins, (y.1 : Nat) < L := fun y hy => by rw [← hL]; exact Heap.lt_size (I1.pin y hy).1
  have hqL : (q : Nat) < L := by rw [← hL]; exact I1.hok.lt hq
  have up0 : TupsUp L H1 := fun b u hb' e => by
    have := I1.hok.lt e
    rw [hL] at this
    exact absurd this (Nat.not_lt.mpr hb')
  have Is : Inv X pins σ H1 s' := I1.call' (ch := []) hos (Un.kept hkeep) (I1.hok.kept hkeep) hbare fun b z => by simp at z
  have wkOf : ∀ {σ' : L2.St} {H' : Hp} {s1 s2 : Shared} {own : List Addr}, Inv X pins σ' H' s2 → (∀ b ∈ own, ∀ o, s1.heap.get? b = some o → s2.heap.get? b = some o) → Wk X.base X.stack sc.os own s1 (s2.setGen g .running) := fun {σ' H' s1 s2 own} I2 ho =>
    ⟨I2.os.trans I1.os.symm, allBare_setGen I2.bare rfl, I2.bk, I2.stack, ho⟩
  have hgo0 : (GenState.fresh c).Goes (model X.prog X.w) X.A.in1 (RC X.stack L) (YC X.prog X.w X.base X.stack sc.os L items a g) items.length (.send .none) (s'.setGen g .running) :=
    ⟨rfl, wake X.A.in1 (s'.setGen g .running) hr.in1 I1.ok.frames (wkOf Is fun b _ o e => e)⟩
  refine codeAny_forLoop_any (fun m s => ∃ (n : Nat) (zs : List V) (σ' : L2.St) (H' : Hp) (gs : GenState), n + m = items.length ∧ Inv X pins σ' H' s ∧ (σ' = σ ∨ ∃ u, σ' = σ.set j (some u)) ∧ s.heap.IsGen a g ∧ TupsUp L H' ∧ W n zs H' ∧ H' q = some (.lst zs) ∧ zs.length = xs.length + n ∧ s.gens[g]? = some gs ∧
    gs.Goes (model X.prog X.w) X.A.in1 (RC X.stack L) (YC X.prog X.w X.base X.stack sc.os L items a g) m (.send .none) (s.setGen g .running)) ?_ items.length ⟨0, xs, σ, H1, _, Nat.zero_add _, Is, .inl rfl, hgen, up0, W0, hq, rfl, hgs, hgo0⟩
  rintro m s3 ⟨n, zs, σ', H', gs, hnm, I3, hσ', hg3, up3, W3, hq3, hz3, hgs3, hgo3⟩
  have hgl : g < s3.gens.size := (Array.getElem?_eq_some_iff.mp hgs3).1
  have hσq : σ'[i]? = some (some (.ref q)) := by
    rcases hσ' with rfl | ⟨u, rfl⟩
    · exact hσ
    · rw [List.getElem?_set_ne (Ne.symm hij)]; exact hσ
  refine wpAny_gsz (n := g + 1) hgl (next_genG (F := fun n s₀ s₁ => Kept X.stack L s₀ s₁ ∧ n = 0) (Er := fun _ _ => False) (Y := YC X.prog X.w X.base X.stack sc.os L items a g) (n := m) hr.hd I3.nolimit hr.depth hg3 hgs3 hgo3 (fun u s1 gs' hbare' hv hsz => ?_) (fun s1 hp h' hk' hsz => ?_) fun e s1 z => z.elim)
  · obtain ⟨j', T, x, y, own, hn, hitem, rfl, kept, hg1, hfresh, hobj, haown, hown', kap⟩ := hv
    have hsz1 : g < s1.gens.size := by
      have q : (s1.setGen g gs').gens.size = s1.gens.size := setGen_size _ _ _
      have hsz' : g + 1 ≤ (s1.setGen g gs').gens.size := hsz
      omega
    have kept' : Kept X.stack L s3 (s1.setGen g gs') := ⟨kept.os, allBare_setGen kept.bare hbare', kept.old, kept.slot, kept.seq⟩
    have hT : H' T = none := by
      cases z : H' T with
      | none => rfl
      | some u =>
        by_cases hlt : (T : Nat) < L
        · obtain ⟨o, ho⟩ := obj_ex (I3.hok T u z)
          exact absurd (hfresh o ho).1 (Nat.not_le.mpr hlt)
        · obtain ⟨ys, rfl⟩ := up3 T u (Nat.le_of_not_lt hlt) z
          obtain ⟨o, ho, hs⟩ := seq_of_tup (I3.hok T _ z)
          exact absurd hs (hfresh o ho).2
    have hok1 : HOk X.prog X.w (upd H' T (.tup [.int x, .int y])) (s1.setGen g gs').heap := fun b u e => by
      by_cases hb : b = T
      · subst hb
        rw [upd_same] at e
        cases e
        exact hobj _
      · rw [upd_ne hb] at e
        exact (back_hok I3 up3 kept' b u e).stay (fun _ _ _ z => z) (fun d z => by rw [upd_ne (ne_of_none z hT)]; exact z) fun d ys z => by rw [upd_ne (ne_of_none z hT)]; exact z
    have I4 : Inv X pins σ' (upd H' T (.tup [.int x, .int y])) (s1.setGen g gs') := back_inv I3 up3 hL1 hL2 hLc hLp hfrs kept' hok1 (fun b hb => upd_ne fun z => hb (by rw [z]; exact hT)) fun b o e hlt hb => by
      rw [upd_ne fun z => ?_]
      · exact hb
      · rw [z] at e hlt
        exact absurd (hfresh o e).1 (Nat.not_le.mpr hlt)
    have ownNe : ∀ b ∈ own, b ≠ X.env.locals ∧ b ≠ q := fun b hb => by
      have hge := (hown' b hb).1
      refine ⟨fun z => ?_, fun z => ?_⟩
      · rw [z] at hge; exact absurd hL2 (Nat.not_lt.mpr hge)
      · rw [z] at hge; exact absurd hqL (Nat.not_lt.mpr hge)
    have hqT : q ≠ T := fun z => by rw [z, hT] at hq3; cases hq3
    refine wpAny_of_eq (rfl : letOwnedTupleGo (.Name v pv) (.ref a) (.ref T) = pure ()) ?_
    refine store_local I4 hN hj hkj (v := .ref T) rfl fun s5 I5 g5 k5 => ?_
    refine wpAny_execs_cons ?_
    have hjl : j < σ'.length := by rw [I3.len]; exact (List.getElem?_eq_some_iff.mp hj).1
    cases m with
    | zero => exact False.elim (kap ((s1.setGen g gs').setGen g .running) (wkOf I4 fun b _ o e => e))
    | succ m =>
    have hjn : j' = n := by omega
    subst hjn
    have hnl : j' < items.length := by omega
    refine append_step I5 hi hki hj hkj (q := q) (zs := zs) (v := .ref T) (by rw [List.getElem?_set_ne (Ne.symm hij)]; exact hσq) (by rw [upd_ne hqT]; exact hq3) (by omega) (by rw [List.getElem?_set_self hjl]) hdi hdj hsw hbase hfew hline htrees fun s6 I6 g6 k6 => ?_
    refine wpAny_execs_nil ?_
    have same : ∀ b ∈ own, s6.heap.get? b = s1.heap.get? b := fun b hb => (k6 b (ownNe b hb).2).trans (k5 b (ownNe b hb).1)
    refine ⟨m, Nat.lt_succ_self m, j' + 1, zs ++ [.ref T], _, _, gs', by omega, I6, ?_, ?_, ?_, step j' zs H' T x y hitem W3 hq3 hT, upd_same, by rw [List.length_append, hz3]; rfl, ?_, ?_⟩
    · rcases hσ' with rfl | ⟨u, rfl⟩
      · exact .inr ⟨_, rfl⟩
      · exact .inr ⟨_, List.set_set ..⟩
    · obtain ⟨o, nm', qn', ho, r'⟩ := hg1
      exact ⟨o, nm', qn', (same a haown).trans ho, r'⟩
    · intro b u hb e
      have hbq : b ≠ q := fun z => by rw [z] at hb; exact absurd hqL (Nat.not_lt.mpr hb)
      rw [upd_ne hbq] at e
      by_cases hbT : b = T
      · rw [hbT, upd_same] at e
        exact ⟨_, (Option.some.inj e).symm⟩
      · rw [upd_ne hbT] at e
        exact up3 b u hb e
    · rw [g6, g5]; exact setGen_at hsz1
    · exact kap (s6.setGen g .running) (wkOf I6 fun b hb o e => (same b hb).trans e)
  · obtain ⟨kept, hm0⟩ := hp
    have kept' : Kept X.stack L s3 (s1.setGen g .finished) := ⟨kept.os, allBare_setGen kept.bare rfl, kept.old, kept.slot, kept.seq⟩
    have I4 : Inv X pins σ' H' (s1.setGen g .finished) := back_inv I3 up3 hL1 hL2 hLc hLp hfrs kept' (back_hok I3 up3 kept') (fun _ _ => rfl) fun _ _ _ _ h => h
    have I5 := I4.kept (t' := s1.toks) (h' := h') hk'
    refine wpAny_execs_nil ?_
    have hnl : n = items.length := by omega
    subst hnl
    exact ⟨σ', H', I5, fin zs H' σ' W3 hq3 hσ'⟩
end
end DG

set_option Elab.async false
set_option linter.all false
set_option autoImplicit false
set_option maxRecDepth 100000
set_option maxHeartbeats 4000000
/-! Generators: the deep form. -/
namespace DG
open PySem PySem.Spec PyProof.Rows L2 GenW DH
theorem rge2' {X : Cx} {a b : Expr} {ta : TA} {q pos : Pos} {σ : L2.St} {i j : Int} {n : Nat} (hn : (j - i).toNat = n) (hg : Gl X "range") (hm : X.mg "range" = none) (ha : PA X [a, b] ta) (hv : ∀ H, ta σ H fun vs _ => vs = [.int i, .int j]) (h1 : -(2 ^ 62) ≤ i) (h2 : i < 2 ^ 62) (h3 : -(2 ^ 62) ≤ j) (h4 : j < 2 ^ 62)
    (hs : starEach [a, b] X.env = [(false, eval a X.env), (false, eval b X.env)] := by rfl) (hs2 : starEach [b] X.env = [(false, eval b X.env)] := by rfl) : RgE X (.Call (.Name "range" q) [a, b] [] pos) σ i n := by
  rw [← hn]; exact rge2 hg hm ha hv h1 h2 h3 h4 hs hs2
theorem wlen_int {many size a : Nat} (h : a < many) : ((if ((many : Int) - (a : Int)) < (size : Int) then ((many : Int) - (a : Int)) else (size : Int)) + 1 - 1).toNat = wlen many size a := by
  unfold wlen
  split <;> omega
structure CalW (P : Program) (w : World) (K : PySem.W.Frag) (mg : Str → Option Value) (base : Heap) (k : Nat) (x : Str) (ps : List Str) : Prop where
  ex : ∃ f fd, GWFn P w K mg base k f fd ps ∧ mg x = some (.ref f) ∧ PySem.W.keepIn K (.ref f) = true ∧ Binds K fd ps []
theorem GWFn.mono {P : Program} {w : World} {K : PySem.W.Frag} {mg : Str → Option Value} {base : Heap} {j k : Nat} {f : Addr} {fd : FuncData} {ps : List Str} (F : GWFn P w K mg base j f fd ps) (h : j ≤ k) : GWFn P w K mg base k f fd ps :=
  ⟨fun A outer s H args us many size hr e0 hb r hm hz => codeAny_mono (F.run A outer s H args us many size (hr.mono h) e0 hb r hm hz) fun r s' q => by
    cases r with
    | error e => exact q
    | ok fl =>
      cases fl with
      | ret u =>
        obtain ⟨a, g, c, h1, h2, h3, h4, h5, h6, h7, h8, h9⟩ := q
        exact ⟨a, g, c, h1, h2, h3, h4, h5, h6, h7, h8, fun A s2 hr hf wk => h9 A s2 (hr.mono h) hf wk⟩
      | next => exact q
      | brk => exact q
      | cont => exact q⟩
theorem CalW.mono {P : Program} {w : World} {K : PySem.W.Frag} {mg : Str → Option Value} {base : Heap} {j k : Nat} {x : Str} {ps : List Str} (c : CalW P w K mg base j x ps) (h : j ≤ k) : CalW P w K mg base k x ps :=
  let ⟨f, fd, F, r⟩ := c.ex; ⟨f, fd, F.mono h, r⟩
theorem calw_mk {P : Program} {w : World} {K : PySem.W.Frag} {mg : Str → Option Value} {base : Heap} {x qual : Str} {params : Arguments} {body : List Stmt} {scope : Scope} {f : Addr} {fd : FuncData} {N ps : List Str} {k : Nat}
    (F : FunD K x qual params body scope [] [] f fd) (hm : mg x = some (.ref f)) (S : GScope N ps scope) (hps : ps.length = 2) (hN : N.length = 4) (hcells : ∀ L, cellsFrom L scope.names [] = [])
    (bd : ∀ (kV doc pm : Value) (an : Option Addr) (cdv ct : Value) (us : List Value), us.length = ps.length → bindArgs (PySem.W.fnOf x qual params body scope .none kV doc pm an cdv ct) ⟨us, []⟩ = pure (ps.zip us))
    (hbody : ∀ (p : Par) (many size : Nat), p.Ok → p.P = P → p.w = w → p.K = K → p.mg = mg → p.N = N → p.scope = scope → p.qual = qual → p.f = f → p.items = wins many size → many ≤ 1000 → size ≤ 1000 → Room k (p.A.deeper p.env) →
      ∃ t, GSs2 p body t ∧ t (fun j _ => j = p.items.length) 0 [some (.int (many : Nat)), some (.int (size : Nat)), none, none]) : CalW P w K mg base (k + 1) x ps := by
  have hb := F.bindsN bd
  have hk := F.kp
  obtain ⟨oc, od, dV, kV, doc, pm, an, cdv, ct, osl, rfl, lk, hcd, _, _⟩ := F.ex
  exact ⟨f, _, gwfn_of lk hcd S hps hN hcells fun p many size ok h1 h2 h3 h4 h5 h6 h7 h8 _ h10 h11 h12 h13 => hbody p many size ok h1 h2 h3 h4 h5 h6 h7 h8 h10 h11 h12 h13, hm, hk, hb⟩
/-! ### the for, deep -/
def winsD (many size : Nat) : List D := (wins many size).map fun p => .tup [.int p.1, .int p.2]
def dForW (da : DA) (i j : Nat) : DS := fun D0 E M => da E M fun ds M1 => ∃ (many size : Nat) (q : Addr) (xs : List D), ds = [.int (many : Nat), .int (size : Nat)] ∧ many ≤ 1000 ∧ size ≤ 1000 ∧ E[i]? = some (some (.ref q)) ∧ M1 q = some (.lst xs) ∧
  xs.length + (winsD many size).length < sizeLine ∧ D0.nx (E.set j none) (updM M1 q (.lst (xs ++ winsD many size)))
theorem updM_twice {M : Mm} {q : Addr} {a b : MO} : updM (updM M q a) q b = updM M q b := by
  funext x
  by_cases h : x = q
  · subst h; rw [updM_same, updM_same]
  · rw [updM_ne h, updM_ne h, updM_ne h]
section
variable {X : Cx} {k : Nat} {ps : List Str} {nm told v : Str} {i j : Nat} {da : DA}
theorem rs_forW {e : Expr} {es : List Expr} {p p1 p2 apos cpos epos pv pos pos' : Pos} (F : CalW X.prog X.w X.K X.mg X.base k nm ps) (hps : ps.length = 2) (hr : Room (k + 1) X.A) (ha : RA X (e :: es) da) (hN : X.N.Nodup) (hij : i ≠ j) (hi : X.N[i]? = some told) (hki : X.env.kindOf told = some .local) (hj : X.N[j]? = some v) (hkj : X.env.kindOf v = some .local)
    (hg : Gl X nm := by rfl) (hstk : X.stack = X.env :: X.outer := by rfl) (hfm : X.env.frame = some X.env.locals := by rfl) (hex : X.ex = [] := by rfl)
    (hdi : (told == ("__debug__" : Str)) = false := by decide) (hdj : (v == ("__debug__" : Str)) = false := by decide)
    (hsw : swapsWith (.Call (.Attribute (.Name told p1) "append" apos) [.Name v p2] [] cpos) none epos.line X.env = pure false := by rfl)
    (hbase : attributeBase (.Name told p1) "append" X.env (eval (.Name told p1) X.env) = eval (.Name told p1) X.env := by rfl)
    (hfew : ((backTo cpos (starEach [.Name v p2] X.env)).all (fun x => !x.1) && (backToKw cpos (keywordEach [] X.env)).all (fun x => x.1.isSome)
      && decide (([.Name v p2] : List Expr).length + ([] : List Keyword).length + (if ([] : List Keyword).isEmpty then 0 else 1) < 30)) = true := by rfl)
    (hline : (apos.endLine == cpos.line) = true := by rfl) (htrees : backTo cpos (starEach [.Name v p2] X.env) = [(false, eval (.Name v p2) X.env)] := by rfl)
    (hs : ∀ x, foldedSetIterable (.Call (.Name nm p) (e :: es) [] pos') X.env x = pure x := by intro _; rfl)
    (hdb : (nm == ("__debug__" : Str)) = false := by decide) (he : starEach (e :: es) X.env = (false, eval e X.env) :: starEach es X.env := by rfl) (hpl : (backTo pos' (starEach es X.env)).any (·.1) = false := by rfl) :
    RS X (.For (.Name v pv) (.Call (.Name nm p) (e :: es) [] pos') [.Expr (.Call (.Attribute (.Name told p1) "append" apos) [.Name v p2] [] cpos) epos] [] pos) (dForW da i j) := fun W tk => by
  obtain ⟨f, fd, G, hm, hkp, hb⟩ := F.ex
  refine ps_imp (ps_forW G hps hr hstk hfm hex hg hm hkp hb ha hN hij hi hki hj hkj hdi hdj hsw hbase hfew hline htrees hs hdb he hpl) fun D σ H ⟨E, M, D', sl, rm, h, kn⟩ => ?_
  refine ⟨E, M, _, sl, rm, h, fun vs H1 ds M1 t1 rm1 r1 q1 => ?_⟩
  obtain ⟨many, size, q, xs, rfl, hm1, hs1, hE, hM, hlen, hnx⟩ := q1
  have hvs : vs = [.int (many : Nat), .int (size : Nat)] := by
    cases r1 with
    | cons a r =>
      cases r with
      | cons b r =>
        cases r
        rw [a.inv_int, b.inv_int]
  obtain ⟨vq, hσ, rv⟩ := sl.at_ i _ hE
  rw [rv.inv_ref] at hσ
  obtain ⟨ys, e1, l1⟩ := rm1 _ _ hM
  have rm0 : Rm X.K X.w H1 (updM M1 q (.lst (xs ++ (winsD many size).take 0))) := rm1.mono fun a o ea => by
    by_cases ha : a = q
    · subst ha
      rw [updM_same, List.take_zero, List.append_nil] at ea
      cases ea; exact hM
    · rw [updM_ne ha] at ea; exact ea
  refine ⟨many, size, q, ys, fun n zs H => Tx X.K H1 H ∧ H q = some (.lst zs) ∧ Rm X.K X.w H (updM M1 q (.lst (xs ++ (winsD many size).take n))), hvs, hm1, hs1, hσ, e1, (by rw [l1.length]; rw [winsD, List.length_map] at hlen; exact hlen), ⟨Tx.refl _, e1, rm0⟩, ?_, ?_⟩
  · rintro n zs H T x y hxy ⟨t, hq, rmn⟩ _ hT
    have hqT : q ≠ T := fun z => by rw [z, hT] at hq; cases hq
    have tn : Tx X.K H (upd H T (.tup [.int x, .int y])) := Tx.new hT
    have hq2 : (upd H T (.tup [.int x, .int y])) q = some (.lst zs) := by rw [upd_ne hqT]; exact hq
    have tm : Tx X.K (upd H T (.tup [.int x, .int y])) (upd (upd H T (.tup [.int x, .int y])) q (.lst (zs ++ [.ref T]))) := Tx.mut hq2 trivial
    obtain ⟨zs', e2, l2⟩ := rmn q _ updM_same
    rw [hq] at e2
    cases e2
    have rep : Rep X.K X.w (upd H T (.tup [.int x, .int y])) (.tup [.int x, .int y]) (.ref T) := .tup (.inl (.inl upd_same)) (.cons (.int x) (.cons (.int y) .nil))
    have hat : (winsD many size)[n]? = some (.tup [.int x, .int y]) := by unfold winsD; rw [List.getElem?_map, hxy]; rfl
    refine ⟨(t.trans tn).trans tm, upd_same, ?_⟩
    have := (rmn.keepNew (ho := .tup [.int x, .int y]) hT).upd (p := q) (mo := .lst ((xs ++ (winsD many size).take n) ++ [.tup [.int x, .int y]])) tm ⟨_, upd_same, ((l2.mono tn).append (.one rep)).mono tm⟩
    rw [updM_twice, List.append_assoc] at this
    rw [List.take_add_one, hat]
    exact this
  · rintro zs H' σ' ⟨t, hq, rmn⟩ _ hσ'
    have hlw : (winsD many size).length = (wins many size).length := by rw [winsD, List.length_map]
    rw [List.take_of_length_le (by omega)] at rmn
    refine kn.nx σ' H' _ _ (t1.trans t) ?_ rmn hnx
    have s1 := (sl.mono t1).mono t
    refine ⟨?_, fun i' d e => ?_⟩
    · rw [List.length_set]
      rcases hσ' with rfl | ⟨u, rfl⟩
      · exact s1.len
      · rw [List.length_set]; exact s1.len
    · by_cases hij' : j = i'
      · subst hij'
        rw [List.getElem?_set] at e
        split at e
        · split at e <;> cases e
        · exact absurd rfl (by assumption)
      · rw [List.getElem?_set_ne hij'] at e
        obtain ⟨u, h1, h2⟩ := s1.at_ i' d e
        refine ⟨u, ?_, h2⟩
        rcases hσ' with rfl | ⟨u', rfl⟩
        · exact h1
        · rw [List.getElem?_set_ne hij']; exact h1
end
end DG

set_option Elab.async false
set_option linter.all false
set_option autoImplicit false
set_option maxRecDepth 100000
set_option maxHeartbeats 2000000
/-! Deep readings: a def called while an exception is handled (its body raises nothing and rests on no calm). -/
namespace DH
open PySem PySem.Spec PyProof.Rows L2
abbrev cxB (P : Program) (w : World) (K : PySem.W.Frag) (mg : Str → Option Value) (base : Heap) (N : List Str) (qual : Str) (scope : Scope) (f : Addr) (cd : Value) (A : Around) (outer : List Env) (s : Shared) (H : Hp) (E : XK) : Cx :=
  { cxOf CX0 P w K mg base N qual scope f cd A outer s H E with calm := false }
structure FnB (P : Program) (w : World) (K : PySem.W.Frag) (mg : Str → Option Value) (base : Heap) (k : Nat) (f : Addr) (fd : FuncData) (ps : List Str) (sp : Sp) : Prop where
  len : ∀ vs H Q E, sp vs H Q E → vs.length = ps.length
  run : ∀ (A : Around) (outer : List Env) (s : Shared) (H : Hp) (args : Args) (us : List Value) (vs : List V) (Q : VK) (E : XK), L2H.RoomH k A → Env0 P w K mg base A outer s H → BindsTo s fd args (ps.zip us) → Vals vs us → sp vs H Q E →
    codeAny (model P w) A (.call (.ref f) args) (CR CX0 outer P w H s Q E) s
theorem inv_startB {P : Program} {w : World} {K : PySem.W.Frag} {mg : Str → Option Value} {base : Heap} {N ps : List Str} {qual : Str} {scope : Scope} {f : Addr} {cd : Value} {A : Around} {outer : List Env} {s s1 : Shared} {H : Hp} {E : XK} {us : List Value} {vs : List V}
    (S : FnScope N ps scope) (e0 : Env0 P w K mg base A outer s H) (hl : vs.length = ps.length) (r : Vals vs us)
    (x : InCallC s s.heap.objs.size (bindL (envOfC qual scope s.heap.objs.size f cd).kindOf (ps.zip us) fun _ => none) (cellsFrom (s.heap.objs.size + 1) scope.names []) (bindC (envOfC qual scope s.heap.objs.size f cd).kindOf (ps.zip us) fun _ => none) s1) :
    Inv (cxB P w K mg base N qual scope f cd A outer s H E) [] (L2.start N vs) H s1 := by
  have hpl : ps.length ≤ N.length := by have := congrArg List.length S.pre; rw [List.length_take] at this; omega
  obtain ⟨h1, tk, rfl, hk⟩ := x.done
  have noA : ∀ b : Addr, b ∉ (cxB P w K mg base N qual scope f cd A outer s H E).ex := fun b z => absurd (show b ∈ ([] : List Addr) from z) (by simp)
  refine ⟨⟨e0.mod, S.kind, rfl, rfl, Nat.le_refl _, fun y z c h1 h2 => ?_, fun y hy => ?_, fun y c _ h => ?_, (fun z => Bool.noConfusion (show false = true from z)), Around.frames_deeper e0.frames, .inr ⟨rfl, rfl⟩, fun b z => absurd z (noA b), e0.bs, e0.bsz, fun b _ _ => noA b, fun b z => absurd z (noA b), e0.funs, e0.frf⟩,
    rfl, e0.bare, Un.kept hk, ⟨_, x.toInCall.ns, fun i y v h1 h2 h3 => ?_⟩, fun y c h => ⟨_, x.cell y c h⟩, e0.hok.fresh (Nat.le_refl _), fun y c h => ?_, fun p hp => absurd (show p ∈ ([] : List (Addr × Obj)) from hp) (by simp), e0.hok.kept hk, ?_⟩
  · exact name_of_addr x.apart (PySem.mem_of_lookup h1) (PySem.mem_of_lookup h2)
  · have hy : scope.names.lookup y = some .cell ∨ scope.names.lookup y = some .free := hy
    rcases hy with hy | hy
    · exact cell_has hy
    · exact absurd rfl (S.nofree _ (PySem.mem_of_lookup hy))
  · exact Nat.le_of_lt (x.above y c (PySem.mem_of_lookup h))
  · have hi : i < vs.length := by
      unfold L2.start at h2
      by_cases hi : i < vs.length
      · exact hi
      · rw [List.getElem?_append_right (by simpa using hi)] at h2
        rw [List.getElem?_replicate] at h2
        split at h2 <;> cases h2
    have ha : vs[i]? = some v := by
      unfold L2.start at h2
      rw [List.getElem?_append_left (by simpa using hi), List.getElem?_map] at h2
      cases e : vs[i]? with
      | none => rw [e] at h2; cases h2
      | some a => rw [e] at h2; cases h2; rfl
    obtain ⟨u, hu, rv⟩ := r.get ha
    have hp : ps[i]? = some y := by
      rw [← S.pre, List.getElem?_take_of_lt (by omega)]; exact h1
    have ndP : ps.Nodup := by rw [← S.pre]; exact S.nd.sublist (List.take_sublist _ _)
    refine ⟨u, rv, ?_⟩
    rcases S.par y (List.mem_of_getElem? hp) with k | k
    · exact .inl ⟨k, bindL_get ndP hp hu k⟩
    · obtain ⟨c, e⟩ := cell_has (n := s.heap.objs.size + 1) k
      refine .inr ⟨.inl k, c, e, ?_⟩
      have q := x.cell y c e
      rw [bindC_get ndP hp hu (by show scope.names.lookup y ≠ _; rw [k]; decide)] at q
      exact q
  · exact e0.hok.fresh (Nat.le_of_lt (x.above y c (PySem.mem_of_lookup h)))
  · unfold L2.start
    show _ = N.length
    rw [List.length_append, List.length_map, List.length_replicate]
    omega
theorem fn_ofB {P : Program} {w : World} {K : PySem.W.Frag} {mg : Str → Option Value} {base : Heap} {k : Nat} {f : Addr} {name qual : Str} {params : Arguments} {body : List Stmt} {scope : Scope} {dV kV doc pm cdv ct oc : Value} {an od : Option Addr}
    {osl : Array (Option Value)} {N ps : List Str} {sp : Sp} (lk : K.lookup f = some ⟨oc, od, .func (PySem.W.fnOf name qual params body scope dV kV doc pm an cdv ct), osl⟩) (hcd : PySem.W.codeIn K cdv qual = true) (S : FnScope N ps scope)
    (len : ∀ vs H Q E, sp vs H Q E → vs.length = ps.length)
    (hbody : ∀ (A : Around) (outer : List Env) (s : Shared) (H : Hp) (vs : List V) (Q : VK) (E : XK), L2H.RoomH k (A.deeper (envOfC qual scope s.heap.objs.size f cdv)) → sp vs H Q E →
      ∃ t, PSs (cxB P w K mg base N qual scope f cdv A outer s H E) body t ∧ t { nx := fun _ H' => Q .non H', rt := Q } (L2.start N vs) H) :
    FnB P w K mg base (k + 1) f (PySem.W.fnOf name qual params body scope dV kV doc pm an cdv ct) ps sp := by
  refine ⟨len, fun A outer s H args us vs Q E hr e0 hb r hsp => ?_⟩
  have hl := len _ _ _ _ hsp
  have KX : K.In s.heap := e0.mod.kin.keeps fun b o e => (e0.bs b o e).1
  have lim : s.heap.NoLimit := e0.mod.nolimit.keeps fun b o e => (e0.bs b o e).1
  have hkind : ∀ y ∈ ps.zip us, scope.names.lookup y.1 = some .local ∨ (scope.names.lookup y.1 = some .cell ∧ ((cellsFrom (s.heap.objs.size + 1) scope.names []).lookup y.1).isSome = true) := fun ⟨n, v⟩ hy => by
    rcases S.par n (List.of_mem_zip hy).1 with q | q
    · exact .inl q
    · exact .inr ⟨q, PySem.W.cellsFrom_some _ _ _ (.inl q)⟩
  refine codeAny_call_function hr.depth (KX _ _ lk) rfl S.co S.gen rfl (PySem.W.codeRec_of KX hcd) (hb _ _ _ _ ?_)
  refine wpAny_newFunctionEnv_cells S.kind hkind fun env he s1 x => ?_
  subst he
  refine ⟨lim.keeps x.toInCall.keep, codeAny_func ?_⟩
  obtain ⟨t, ht, hq⟩ := hbody A outer s H vs Q E (hr.deeper _) hsp
  have I : Inv (cxB P w K mg base N qual scope f cdv A outer s H E) [] (L2.start N vs) H s1 := inv_startB S e0 hl r x
  refine wpAny_mono (ht.run [] s1 (L2.start N vs) H _ I hq) (fun fl s' hs => ?_) fun e s' hs => hs
  have fin : ∀ {σ' : L2.St} {H' : Hp} {v : V} {u : Value}, Inv (cxB P w K mg base N qual scope f cdv A outer s H E) [] σ' H' s' → RelV v u → Q v H' → CE outer P w H s Q u s' :=
    fun {σ' H' v u} J rv q => ⟨v, H', J.os, J.bare, J.base, J.hok, rv, q⟩
  cases fl with
  | ret u =>
    obtain ⟨v, σ', H', J, rv, q⟩ := hs
    exact fin J rv q
  | next =>
    obtain ⟨σ', H', J, q⟩ := hs
    exact fin (v := V.non) (u := Value.none) J rfl q
  | brk =>
    obtain ⟨_, _, _, q⟩ := hs
    exact False.elim q
  | cont =>
    obtain ⟨_, _, _, q⟩ := hs
    exact False.elim q
section
variable {X : Cx} {k : Nat} {f : Addr} {fd : FuncData} {ps : List Str} {sp : Sp} {x : Str} {q pos : Pos} {e : Expr} {es : List Expr} {t : TA}
theorem pe_callB0 (F : FnB X.prog X.w X.K X.mg X.base k f fd ps sp) (hr : L2H.RoomH k X.A) (hg : Gl X x) (hm : X.mg x = some (.ref f)) (hk : PySem.W.keepIn X.K (.ref f) = true) (hb : Binds X.K fd ps [])
    (ha : PA X (e :: es) t) (hdb : (x == ("__debug__" : Str)) = false := by decide) (he : starEach (e :: es) X.env = (false, eval e X.env) :: starEach es X.env := by rfl) (hpl : (backTo pos (starEach es X.env)).any (·.1) = false := by rfl) :
    PE X (.Call (.Name x q) (e :: es) [] pos) (tCall sp [] (fun _ _ _ => False) t) := by
  refine ⟨fun pins s σ H Q I h => ?_⟩
  refine wpAny_Call_Name_kw (ld_glob I hg hm ?_ hdb)
  refine PySem.W.callWith_K (h₀ := X.base) I.ok.mod.kin hk (thn (ha.run pos pins s σ H _ I h) fun us s1 ⟨vs, H1, I1, r, q⟩ => ⟨I1.kIn, ?_⟩) he hpl
  have r2 : Vals (vs ++ []) (us ++ []) := r.append .nil
  have hl : (us ++ []).length = ps.length := by rw [← r2.length]; exact F.len _ _ _ _ q
  refine wpAny_call (codeAny_mono (F.run X.A X.stack s1 H1 ⟨us, []⟩ (us ++ []) (vs ++ []) Q _ hr I1.env0 (hb s1 us I1.kIn hl) r2 q) fun r s' hq => ?_)
  cases r with
  | error e => exact pass0 pins σ H1 s1 e s' I1 hq
  | ok fl =>
    cases fl with
    | ret u => exact I1.after hq
    | next => exact False.elim hq
    | brk => exact False.elim hq
    | cont => exact False.elim hq
end
/-- a def of the top that may be called there -/
structure CalH (P : Program) (w : World) (K : PySem.W.Frag) (mg : Str → Option Value) (base : Heap) (k : Nat) (x : Str) (ps : List Str) (sp : DSp) : Prop where
  ex : ∃ f fd, FnB P w K mg base k f fd ps (spD K w sp) ∧ mg x = some (.ref f) ∧ PySem.W.keepIn K (.ref f) = true ∧ Binds K fd ps []
theorem CalH.mono {P : Program} {w : World} {K : PySem.W.Frag} {mg : Str → Option Value} {base : Heap} {j k : Nat} {x : Str} {ps : List Str} {sp : DSp} (C : CalH P w K mg base j x ps sp) (h : j ≤ k) : CalH P w K mg base k x ps sp :=
  let ⟨f, fd, F, r⟩ := C.ex; ⟨f, fd, ⟨F.len, fun A outer s H args us vs Q E hr => F.run A outer s H args us vs Q E (hr.mono h)⟩, r⟩
abbrev Xh (P : Program) (w : World) (K : PySem.W.Frag) (mg : Str → Option Value) (base : Heap) (N : List Str) (qual : Str) (scope : Scope) (f : Addr) (cdv : Value) (A : Around) (outer : List Env) (s : Shared) (H : Hp) (E : XK) : Cx := (cxB P w K mg base N qual scope f cdv A outer s H E).nox
theorem calh_mk {P : Program} {w : World} {K : PySem.W.Frag} {mg : Str → Option Value} {base : Heap} {x : Str} {st : Stmt} {N ps : List Str} {k : Nat} {sp : DSp} {b : DS}
    (T : Top K mg x st) (S : FnScope N ps (defScope st)) (bd : ∀ (kV doc pm : Value) (an : Option Addr) (cdv ct : Value) (us : List Value), us.length = ps.length → bindArgs (PySem.W.fnOf x x (defArgs st) (defBody st) (defScope st) .none kV doc pm an cdv ct) ⟨us, []⟩ = pure (ps.zip us))
    (hb : ∀ (f : Addr) (cdv : Value) (A : Around) (outer : List Env) (s : Shared) (H : Hp) (E : XK), L2H.RoomH k (A.deeper (envOfC x (defScope st) s.heap.objs.size f cdv)) → RSs (Xh P w K mg base N x (defScope st) f cdv A outer s H E) (defBody st) b)
    (len : ∀ ds M Q E, sp ds M Q E → ds.length = ps.length)
    (hq : ∀ ds M Q E, sp ds M Q E → b { nx := fun _ M' => Q .non M', rt := Q } (startD N.length ds) M) : CalH P w K mg base (k + 1) x ps sp := by
  obtain ⟨f, fd, F, hm⟩ := T
  have F' := F
  obtain ⟨oc, od, dV, kV, doc, pm, an, cdv, ct, osl, rfl, lk, hcd, _, _⟩ := F'.ex
  refine ⟨f, _, fn_ofB lk hcd S (fun vs H Q E h => ?_) (fun A outer s H vs Q E hr h => ?_), hm, F.kp, F.bindsN bd⟩
  · obtain ⟨ds, M, Q', E', r, _, h, _⟩ := h
    rw [r.length]
    exact len _ _ _ _ h
  · obtain ⟨ds, M, Q', E', r, rm, h, kc, ke⟩ := h
    exact ⟨_, (hb f cdv A outer s H E hr _ takes0).nox, _, M, _, repL_at r, rm, hq _ _ _ _ h, ⟨fun σ' H' E' M' t _ rm' q => kc _ _ _ _ t rm' .non q, kc, fun _ _ _ _ _ _ _ z => z.elim, fun _ _ _ _ _ _ _ z => z.elim, fun _ _ _ _ _ _ _ _ _ z => z.elim⟩⟩
theorem roomM {X : Cx} {k : Nat} {a : Addr} {pn : List (Addr × Obj)} (h : Room k X.A) : L2H.RoomH k (X.suite a pn).A := ⟨h.dp, h.un⟩
theorem huH {k : Nat} {A : Around} (r : L2H.RoomH k A) : A.units + 66 < cLine := by have := r.un; omega
theorem huH1 {k : Nat} {A : Around} (r : L2H.RoomH k A) : A.units + 1 < cLine := by have := r.un; omega
section
variable {X : Cx} {pos : Pos}
theorem re_calH {k : Nat} {x : Str} {ps : List Str} {sp : DSp} {p : Pos} {e : Expr} {es : List Expr} {dr : DA} (C : CalH X.prog X.w X.K X.mg X.base k x ps sp) (hr : L2H.RoomH k X.A) (ha : RA X (e :: es) dr) (hg : Gl X x := by rfl) (hdb : (x == ("__debug__" : Str)) = false := by decide)
    (he : starEach (e :: es) X.env = (false, eval e X.env) :: starEach es X.env := by rfl) (hpl : (backTo pos (starEach es X.env)).any (·.1) = false := by rfl) : RE X (.Call (.Name x p) (e :: es) [] pos) (dCall sp dr) := by
  obtain ⟨f, fd, F, hm, hk, hb⟩ := C.ex
  refine pe_imp (pe_callB0 F hr hg hm hk hb ha hdb he hpl) fun σ H Q ⟨E, M, Q', sl, rm, h, k⟩ => ?_
  refine ⟨E, M, _, sl, rm, h, fun vs H1 ds M1 t1 rm1 r1 q1 => ?_⟩
  show spD X.K X.w sp (vs ++ []) H1 Q _
  rw [List.append_nil]
  exact ⟨ds, M1, Q', EX0, r1, rm1, q1, k.tx t1, fun _ _ _ _ _ _ z => z.elim⟩
end
end DH

set_option Elab.async false
set_option linter.all false
set_option autoImplicit false
set_option maxRecDepth 100000
set_option maxHeartbeats 4000000
/-! the bodies of the defs as deep terms: printed by gen.py -/
namespace Bd
open PySem PySem.Spec PyProof.Rows L2 DH
def kv_ARITY : List (Str × D) := [("not", .int 1), ("neg", .int 1), ("and", .int 2), ("or", .int 2), ("xor", .int 2), ("add", .int 2), ("sub", .int 2), ("mul", .int 2), ("shl", .int 2), ("shr", .int 2), ("eq", .int 2), ("lt", .int 2), ("slt", .int 2), ("pick", .int 3)]
/-! word_limit: width 0, -/
def b_word_limit : DS := dRet (dOp oShl (dC (.int 1)) (dVar 0))
/-! signed_value: width 0, word 1, calls word_limit -/
def b_signed_value (s_word_limit : DSp) : DS := dSeq (dIf (dtB (dOp oGe (dVar 1) (dOp oFdiv (dCall s_word_limit (dCons (dVar 0) (dNil))) (dC (.int 2))))) (dRet (dOp oSub (dVar 1) (dCall s_word_limit (dCons (dVar 0) (dNil))))) (dNext)) (dRet (dVar 1))
/-! operate_one: name 0, width 1, word 2, calls word_limit -/
def b_operate_one (s_word_limit : DSp) : DS := dSeq (dIf (dtB (dOp oEq (dVar 0) (dC (.str "not")))) (dRet (dOp oSub (dOp oSub (dCall s_word_limit (dCons (dVar 1) (dNil))) (dC (.int 1))) (dVar 2))) (dNext)) (dRet (dOp oAnd (dOp oSub (dCall s_word_limit (dCons (dVar 1) (dNil))) (dVar 2)) (dOp oSub (dCall s_word_limit (dCons (dVar 1) (dNil))) (dC (.int 1)))))
/-! operate_bits: name 0, one 1, other 2, -/
def b_operate_bits : DS := dSeq (dIf (dtB (dOp oEq (dVar 0) (dC (.str "and")))) (dRet (dOp oAnd (dVar 1) (dVar 2))) (dNext)) (dSeq (dIf (dtB (dOp oEq (dVar 0) (dC (.str "or")))) (dRet (dOp oOr (dVar 1) (dVar 2))) (dNext)) (dRet (dOp oXor (dVar 1) (dVar 2))))
/-! operate_sum: name 0, width 1, one 2, other 3, mask 4, calls word_limit -/
def b_operate_sum (s_word_limit : DSp) : DS := dSeq (dAsg (dOp oSub (dCall s_word_limit (dCons (dVar 1) (dNil))) (dC (.int 1))) (.nm 4)) (dSeq (dIf (dtB (dOp oEq (dVar 0) (dC (.str "add")))) (dRet (dOp oAnd (dOp oAdd (dVar 2) (dVar 3)) (dVar 4))) (dNext)) (dSeq (dIf (dtB (dOp oEq (dVar 0) (dC (.str "sub")))) (dRet (dOp oAnd (dOp oSub (dVar 2) (dVar 3)) (dVar 4))) (dNext)) (dSeq (dIf (dtB (dOp oEq (dVar 0) (dC (.str "mul")))) (dRet (dOp oAnd (dOp oMul (dVar 2) (dVar 3)) (dVar 4))) (dNext)) (dSeq (dIf (dtB (dOp oEq (dVar 0) (dC (.str "shl")))) (dRet (dOp oAnd (dOp oShl (dVar 2) (dVar 3)) (dVar 4))) (dNext)) (dRet (dOp oShr (dVar 2) (dVar 3)))))))
/-! operate_order: name 0, width 1, one 2, other 3, calls signed_value -/
def b_operate_order (s_signed_value : DSp) : DS := dSeq (dIf (dtB (dOp oEq (dVar 0) (dC (.str "eq")))) (dRet (dL oInt1 (dCons (dOp oEq (dVar 2) (dVar 3)) (dNil)))) (dNext)) (dSeq (dIf (dtB (dOp oEq (dVar 0) (dC (.str "lt")))) (dRet (dL oInt1 (dCons (dOp oLt (dVar 2) (dVar 3)) (dNil)))) (dNext)) (dRet (dL oInt1 (dCons (dOp oLt (dCall s_signed_value (dCons (dVar 1) (dCons (dVar 2) (dNil)))) (dCall s_signed_value (dCons (dVar 1) (dCons (dVar 3) (dNil))))) (dNil)))))
/-! operate: name 0, width 1, args 2, calls operate_one operate_bits operate_order operate_sum -/
def b_operate (s_operate_one s_operate_bits s_operate_order s_operate_sum : DSp) : DS := dSeq (dIf (dtB (dOp oEq (dVar 0) (dC (.str "pick")))) (dSeq (dIf (dtB (dOp oNe (dOp oIx (dVar 2) (dC (.int 0))) (dC (.int 0)))) (dRet (dOp oIx (dVar 2) (dC (.int 1)))) (dNext)) (dRet (dOp oIx (dVar 2) (dC (.int 2))))) (dNext)) (dSeq (dIf (dtB (dOp oEq (dL oLen (dCons (dVar 2) (dNil))) (dC (.int 1)))) (dRet (dCall s_operate_one (dCons (dVar 0) (dCons (dVar 1) (dCons (dOp oIx (dVar 2) (dC (.int 0))) (dNil)))))) (dNext)) (dSeq (dIf (dtB (dOp (oIn false) (dVar 0) (dTup (dCons (dC (.str "and")) (dCons (dC (.str "or")) (dCons (dC (.str "xor")) (dNil))))))) (dRet (dCall s_operate_bits (dCons (dVar 0) (dCons (dOp oIx (dVar 2) (dC (.int 0))) (dCons (dOp oIx (dVar 2) (dC (.int 1))) (dNil)))))) (dNext)) (dSeq (dIf (dtB (dOp (oIn false) (dVar 0) (dTup (dCons (dC (.str "eq")) (dCons (dC (.str "lt")) (dCons (dC (.str "slt")) (dNil))))))) (dRet (dCall s_operate_order (dCons (dVar 0) (dCons (dVar 1) (dCons (dOp oIx (dVar 2) (dC (.int 0))) (dCons (dOp oIx (dVar 2) (dC (.int 1))) (dNil))))))) (dNext)) (dRet (dCall s_operate_sum (dCons (dVar 0) (dCons (dVar 1) (dCons (dOp oIx (dVar 2) (dC (.int 0))) (dCons (dOp oIx (dVar 2) (dC (.int 1))) (dNil))))))))))
/-! all_rows: width 0, many 1, rows 2, _ 3, row 4, word 5, calls word_limit -/
/-! is_name: name 0, char 1, -/
def b_is_name : DS := dSeq (dIf (dtOr (dtNot (dtB (dChain oLe oLe (dC (.int 1)) (dL oLen (dCons (dVar 0) (dNil))) (dC (.int 6))))) (dtB (dOp (oIn true) (dOp oIx (dVar 0) (dC (.int 0))) (dC (.str "abcdefghijklmnopqrstuvwxyz"))))) (dRet (dC (.bl false))) (dNext)) (dSeq (dFor (dIter (dVar 0)) (.nm 1) (dIf (dtAnd (dtB (dOp (oIn true) (dVar 1) (dC (.str "abcdefghijklmnopqrstuvwxyz")))) (dtB (dOp (oIn true) (dVar 1) (dC (.str "0123456789"))))) (dRet (dC (.bl false))) (dNext))) (dRet (dC (.bl true))))
/-! is_value_name: name 0, calls is_name -/
def b_is_value_name (s_is_name : DSp) : DS := dRet (dAndV (dCall s_is_name (dCons (dVar 0) (dNil))) (dOp (oIn true) (dVar 0) (dC (.kd kv_ARITY))))
/-! formula_size: formula 0, total 1, part 2, calls formula_size -/
def b_formula_size (s_formula_size : DSp) : DS := dSeq (dIf (dtE (dIs [.int, .str] (dVar 0))) (dRet (dC (.int 1))) (dNext)) (dSeq (dAsg (dC (.int 1)) (.nm 1)) (dSeq (dFor (dIter (dSl (dVar 0) (dPart (dC (.int 1))) dNoPart)) (.nm 2) (dAsg (dOp oAdd (dVar 1) (dCall s_formula_size (dCons (dVar 2) (dNil)))) (.nm 1))) (dRet (dVar 1))))
/-! formula_depth: formula 0, deepest 1, part 2, calls formula_depth -/
/-! is_shaped: formula 0, width 1, names 2, depth 3, part 4, calls word_limit is_shaped -/
def b_is_shaped (s_word_limit s_is_shaped : DSp) : DS := dSeq (dIf (dtE (dIs [.int] (dVar 0))) (dRet (dChain oLe oLt (dC (.int 0)) (dVar 0) (dCall s_word_limit (dCons (dVar 1) (dNil))))) (dNext)) (dSeq (dIf (dtE (dIs [.str] (dVar 0))) (dRet (dOp (oIn false) (dVar 0) (dVar 2))) (dNext)) (dSeq (dIf (dtOr (dtB (dOp oEq (dVar 3) (dC (.int 0)))) (dtOr (dtB (dOp oEq (dL oLen (dCons (dVar 0) (dNil))) (dC (.int 0)))) (dtNot (dtE (dIs [.str] (dOp oIx (dVar 0) (dC (.int 0)))))))) (dRet (dC (.bl false))) (dNext)) (dSeq (dIf (dtOr (dtB (dOp (oIn true) (dOp oIx (dVar 0) (dC (.int 0))) (dC (.kd kv_ARITY)))) (dtB (dOp oNe (dL oLen (dCons (dVar 0) (dNil))) (dOp oAdd (dC (.int 1)) (dOp oIx (dC (.kd kv_ARITY)) (dOp oIx (dVar 0) (dC (.int 0)))))))) (dRet (dC (.bl false))) (dNext)) (dSeq (dFor (dIter (dSl (dVar 0) (dPart (dC (.int 1))) dNoPart)) (.nm 4) (dIf (dtNot (dtE (dCall s_is_shaped (dCons (dVar 4) (dCons (dVar 1) (dCons (dVar 2) (dCons (dOp oSub (dVar 3) (dC (.int 1))) (dNil)))))))) (dRet (dC (.bl false))) (dNext))) (dRet (dC (.bl true)))))))
/-! is_formula: formula 0, width 1, names 2, most 3, calls is_shaped formula_size -/
def b_is_formula (s_is_shaped s_formula_size : DSp) : DS := dRet (dAndV (dCall s_is_shaped (dCons (dVar 0) (dCons (dVar 1) (dCons (dVar 2) (dCons (dC (.int 6)) (dNil)))))) (dOp oLe (dCall s_formula_size (dCons (dVar 0) (dNil))) (dVar 3)))
/-! formula_names: formula 0, found 1, part 2, name 3, calls formula_names -/
def b_formula_names (s_formula_names : DSp) : DS := dSeq (dIf (dtE (dIs [.int] (dVar 0))) (dRet (dLst (dNil))) (dNext)) (dSeq (dIf (dtE (dIs [.str] (dVar 0))) (dRet (dLst (dCons (dVar 0) (dNil)))) (dNext)) (dSeq (dAsg (dLst (dNil)) (.nm 1)) (dSeq (dFor (dIter (dSl (dVar 0) (dPart (dC (.int 1))) dNoPart)) (.nm 2) (dFor (dIter (dCall s_formula_names (dCons (dVar 2) (dNil)))) (.nm 3) (dIf (dtB (dOp (oIn true) (dVar 3) (dVar 1))) (dDrop (dApp (dVar 1) (dVar 3))) (dNext)))) (dRet (dVar 1)))))
/-! formula_value: formula 0, width 1, env 2, args 3, part 4, calls formula_value operate -/
def b_formula_value (s_formula_value s_operate : DSp) : DS := dSeq (dIf (dtE (dIs [.int] (dVar 0))) (dRet (dVar 0)) (dNext)) (dSeq (dIf (dtE (dIs [.str] (dVar 0))) (dRet (dOp oIx (dVar 2) (dVar 0))) (dNext)) (dSeq (dAsg (dLst (dNil)) (.nm 3)) (dSeq (dFor (dIter (dSl (dVar 0) (dPart (dC (.int 1))) dNoPart)) (.nm 4) (dDrop (dApp (dVar 3) (dCall s_formula_value (dCons (dVar 4) (dCons (dVar 1) (dCons (dVar 2) (dNil)))))))) (dRet (dCall s_operate (dCons (dOp oIx (dVar 0) (dC (.int 0))) (dCons (dVar 1) (dCons (dVar 3) (dNil)))))))))
/-! put_in: formula 0, env 1, parts 2, part 3, calls put_in -/
def b_put_in (s_put_in : DSp) : DS := dSeq (dIf (dtE (dIs [.int] (dVar 0))) (dRet (dVar 0)) (dNext)) (dSeq (dIf (dtE (dIs [.str] (dVar 0))) (dRet (dGet2 (dVar 1) (dVar 0) (dVar 0))) (dNext)) (dSeq (dAsg (dLst (dCons (dOp oIx (dVar 0) (dC (.int 0))) (dNil))) (.nm 2)) (dSeq (dFor (dIter (dSl (dVar 0) (dPart (dC (.int 1))) dNoPart)) (.nm 3) (dDrop (dApp (dVar 2) (dCall s_put_in (dCons (dVar 3) (dCons (dVar 1) (dNil))))))) (dRet (dL oTuple (dCons (dVar 2) (dNil)))))))
/-! _law_mix: number 0, k 1, -/
def b__law_mix : DS := dSeq (dAsg (dOp oMod (dOp oAdd (dOp oAdd (dOp oMul (dL oInt1 (dCons (dVar 0) (dNil))) (dC (.int 48271))) (dOp oMul (dVar 1) (dC (.int 69621)))) (dC (.int 12345))) (dC (.int 2147483647))) (.nm 0)) (dRet (dOp oMod (dOp oAdd (dOp oAdd (dOp oMul (dVar 0) (dC (.int 40692))) (dOp oMul (dVar 1) (dC (.int 52774)))) (dC (.int 7))) (dC (.int 2147483399))))
/-! _law_stream: script 0, many 1, numbers 2, last 3, k 4, cell 5, j 6, calls _law_mix -/
def b__law_stream (s__law_mix : DSp) : DS := dSeq (dAsg (dLst (dNil)) (.nm 2)) (dSeq (dAsg (dC (.int 1)) (.nm 3)) (dSeq (dFor (dRng1 (dCons (dL oMin2 (dCons (dC (.int 63)) (dCons (dL oLen (dCons (dVar 0) (dNil))) (dNil)))) (dNil))) (.nm 4) (dSeq (dAsg (dL oAbs (dCons (dL oInt1 (dCons (dOp oIx (dVar 0) (dVar 4)) (dNil))) (dNil))) (.nm 5)) (dSeq (dAsg (dCall s__law_mix (dCons (dOp oAdd (dVar 3) (dOp oMod (dVar 5) (dC (.int 2147483647)))) (dCons (dVar 4) (dNil)))) (.nm 3)) (dIf (dtB (dOp oGe (dVar 5) (dOp oPow (dC (.int 10)) (dC (.int 18))))) (dFor (dRng1 (dCons (dC (.int 40)) (dNil))) (.nm 6) (dIf (dtB (dOp oGt (dVar 5) (dC (.int 0)))) (dSeq (dDrop (dApp (dVar 2) (dOp oMod (dVar 5) (dC (.int 1009))))) (dAsg (dOp oFdiv (dVar 5) (dC (.int 1009))) (.nm 5))) (dNext))) (dDrop (dApp (dVar 2) (dOp oMod (dCall s__law_mix (dCons (dVar 5) (dCons (dVar 4) (dNil)))) (dC (.int 1009))))))))) (dSeq (dFor (dRng1 (dCons (dVar 1) (dNil))) (.nm 4) (dIf (dtB (dOp oLt (dL oLen (dCons (dVar 2) (dNil))) (dVar 1))) (dSeq (dAsg (dCall s__law_mix (dCons (dVar 3) (dCons (dL oLen (dCons (dVar 2) (dNil))) (dNil)))) (.nm 3)) (dDrop (dApp (dVar 2) (dOp oMod (dVar 3) (dC (.int 1009)))))) (dNext))) (dRet (dVar 2)))))
/-! _law_take: numbers 0, cursor 1, many 2, number 3, -/
def b__law_take : DS := dSeq (dAsg (dOp oIx (dVar 0) (dOp oMod (dOp oIx (dVar 1) (dC (.int 0))) (dL oLen (dCons (dVar 0) (dNil))))) (.nm 3)) (dSeq (dSetIx (dOp oAdd (dOp oIx (dVar 1) (dC (.int 0))) (dC (.int 1))) (dVar 1) (dC (.int 0))) (dRet (dOp oMod (dL oInt1 (dCons (dVar 3) (dNil))) (dVar 2))))
/-! _law_arity: word 0, -/
/-! _law_formula: numbers 0, cursor 1, names 2, width 3, depth 4, words 5, word 6, parts 7, k 8, calls _law_take _law_arity _law_formula -/
/-! _law_two: word 0, width 1, one 2, other 3, limit 4, -/
def b__law_two : DS := dSeq (dAsg (dOp oShl (dC (.int 1)) (dVar 1)) (.nm 4)) (dSeq (dIf (dtB (dOp oEq (dVar 0) (dC (.str "and")))) (dRet (dOp oAnd (dVar 2) (dVar 3))) (dNext)) (dSeq (dIf (dtB (dOp oEq (dVar 0) (dC (.str "or")))) (dRet (dOp oOr (dVar 2) (dVar 3))) (dNext)) (dSeq (dIf (dtB (dOp oEq (dVar 0) (dC (.str "xor")))) (dRet (dOp oXor (dVar 2) (dVar 3))) (dNext)) (dSeq (dIf (dtB (dOp oEq (dVar 0) (dC (.str "add")))) (dRet (dOp oMod (dL oInt1 (dCons (dOp oAdd (dVar 2) (dVar 3)) (dNil))) (dVar 4))) (dNext)) (dSeq (dIf (dtB (dOp oEq (dVar 0) (dC (.str "sub")))) (dRet (dOp oMod (dL oInt1 (dCons (dOp oSub (dVar 2) (dVar 3)) (dNil))) (dVar 4))) (dNext)) (dSeq (dIf (dtB (dOp oEq (dVar 0) (dC (.str "mul")))) (dRet (dOp oMod (dL oInt1 (dCons (dOp oMul (dVar 2) (dVar 3)) (dNil))) (dVar 4))) (dNext)) (dSeq (dIf (dtB (dOp oEq (dVar 0) (dC (.str "shl")))) (dRet (dOp oMod (dL oInt1 (dCons (dOp oShl (dVar 2) (dVar 3)) (dNil))) (dVar 4))) (dNext)) (dSeq (dIf (dtB (dOp oEq (dVar 0) (dC (.str "shr")))) (dRet (dOp oShr (dVar 2) (dVar 3))) (dNext)) (dSeq (dIf (dtB (dOp oEq (dVar 0) (dC (.str "eq")))) (dRet (dL oInt1 (dCons (dOp oEq (dVar 2) (dVar 3)) (dNil)))) (dNext)) (dSeq (dIf (dtB (dOp oEq (dVar 0) (dC (.str "lt")))) (dRet (dL oInt1 (dCons (dOp oLt (dVar 2) (dVar 3)) (dNil)))) (dNext)) (dRet (dL oInt1 (dCons (dOp oLt (dOp oMod (dL oInt1 (dCons (dOp oAdd (dVar 2) (dOp oFdiv (dVar 4) (dC (.int 2)))) (dNil))) (dVar 4)) (dOp oMod (dL oInt1 (dCons (dOp oAdd (dVar 3) (dOp oFdiv (dVar 4) (dC (.int 2)))) (dNil))) (dVar 4))) (dNil))))))))))))))
/-! _law_value: formula 0, width 1, env 2, parts 3, part 4, calls _law_value _law_two -/
def b__law_value (s__law_value s__law_two : DSp) : DS := dSeq (dIf (dtE (dIs [.int] (dVar 0))) (dRet (dVar 0)) (dNext)) (dSeq (dIf (dtE (dIs [.str] (dVar 0))) (dRet (dOp oIx (dVar 2) (dVar 0))) (dNext)) (dSeq (dAsg (dLc (dIter (dSl (dVar 0) (dPart (dC (.int 1))) dNoPart)) (.nm 4) dYes (dCall s__law_value (dCons (dVar 4) (dCons (dVar 1) (dCons (dVar 2) (dNil))))) [4]) (.nm 3)) (dSeq (dIf (dtB (dOp oEq (dOp oIx (dVar 0) (dC (.int 0))) (dC (.str "not")))) (dRet (dOp oSub (dOp oSub (dOp oShl (dC (.int 1)) (dVar 1)) (dC (.int 1))) (dOp oIx (dVar 3) (dC (.int 0))))) (dNext)) (dSeq (dIf (dtB (dOp oEq (dOp oIx (dVar 0) (dC (.int 0))) (dC (.str "neg")))) (dRet (dOp oMod (dL oInt1 (dCons (dOp oSub (dC (.int 0)) (dOp oIx (dVar 3) (dC (.int 0)))) (dNil))) (dOp oShl (dC (.int 1)) (dVar 1)))) (dNext)) (dSeq (dIf (dtB (dOp oEq (dOp oIx (dVar 0) (dC (.int 0))) (dC (.str "pick")))) (dRet (dOp oIx (dVar 3) (dOp oAdd (dC (.int 1)) (dL oInt1 (dCons (dOp oEq (dOp oIx (dVar 3) (dC (.int 0))) (dC (.int 0))) (dNil)))))) (dNext)) (dRet (dCall s__law_two (dCons (dOp oIx (dVar 0) (dC (.int 0))) (dCons (dVar 1) (dCons (dOp oIx (dVar 3) (dC (.int 0))) (dCons (dOp oIx (dVar 3) (dC (.int 1))) (dNil))))))))))))
/-! _law_size: formula 0, part 1, calls _law_size -/
/-! _law_depth: formula 0, part 1, calls _law_depth -/
/-! _law_names: formula 0, found 1, part 2, name 3, calls _law_names -/
/-! _law_put: formula 0, env 1, part 2, calls _law_put -/
/-! _law_is_whole: told 0, due 1, -/
/-! _law_truth: told 0, due 1, -/
/-! _law_operations: numbers 0, cursor 1, width 2, words 3, word 4, many 5, args 6, k 7, env 8, due 9, calls _law_arity _law_is_whole _law_take _law_value operate signed_value -/
/-! _law_rows: numbers 0, cursor 1, width 2, many 3, told 4, at 5, row 6, number 7, word 8, calls _law_take all_rows -/
/-! _law_strings: numbers 0, cursor 1, signs 2, name 3, k 4, words 5, good 6, calls _law_take _law_truth is_name is_value_name -/
/-! _law_valid: formula 0, width 1, names 2, size 3, most 4, due 5, calls _law_size _law_depth _law_truth is_formula -/
/-! _law_spoilt: numbers 0, cursor 1, formula 2, width 3, odd 4, wrong 5, calls _law_take -/
/-! law: script 0, numbers 1, cursor 2, width 3, names 4, formula 5, k 6, told 7, env 8, trade 9, handed 10, calls _law_stream _law_take _law_operations _law_rows _law_strings _law_formula _law_depth _law_is_whole _law_size formula_size formula_depth formula_names _law_names _law_valid _law_truth is_formula _law_spoilt _law_value formula_value put_in _law_put -/
/-! bad_input: text 0, at 1, name 2, calls is_value_name -/
def b_bad_input (cl : CF) (s_is_value_name : DSp) : DS := dSeq (dAsg (dOp oIx (dFld cl "inputs" (dVar 0)) (dVar 1)) (.nm 2)) (dSeq (dIf (dtOr (dtNot (dtE (dCall s_is_value_name (dCons (dVar 2) (dNil))))) (dtB (dOp (oIn false) (dVar 2) (dSl (dFld cl "inputs" (dVar 0)) dNoPart (dPart (dVar 1)))))) (dRet (dC (.bl true))) (dNext)) (dRet (dOrV (dOp oGe (dVar 1) (dC (.int 4))) (dOp oGt (dOp oMul (dFld cl "width" (dVar 0)) (dOp oAdd (dVar 1) (dC (.int 1)))) (dC (.int 8))))))
/-! bad_let: text 0, at 1, name 2, formula 3, known 4, row 5, calls is_value_name is_formula -/
def b_bad_let (cl : CF) (s_is_value_name s_is_formula : DSp) : DS := dSeq (dAsg (dOp oIx (dFld cl "lets" (dVar 0)) (dVar 1)) (.tp [2, 3])) (dSeq (dAsg (dOp oAdd (dL oList (dCons (dFld cl "inputs" (dVar 0)) (dNil))) (dLc (dIter (dSl (dFld cl "lets" (dVar 0)) dNoPart (dPart (dVar 1)))) (.nm 5) dYes (dOp oIx (dVar 5) (dC (.int 0))) [5])) (.nm 4)) (dSeq (dIf (dtOr (dtNot (dtE (dCall s_is_value_name (dCons (dVar 2) (dNil))))) (dtOr (dtB (dOp (oIn false) (dVar 2) (dVar 4))) (dtB (dOp oGe (dVar 1) (dC (.int 60)))))) (dRet (dC (.bl true))) (dNext)) (dRet (dNotV (dCall s_is_formula (dCons (dVar 3) (dCons (dFld cl "width" (dVar 0)) (dCons (dVar 4) (dCons (dC (.int 15)) (dNil))))))))))
/-! bad_out: text 0, at 1, register 2, formula 3, known 4, row 5, calls is_formula -/
def b_bad_out (cl : CF) (s_is_formula : DSp) : DS := dSeq (dAsg (dOp oIx (dFld cl "outs" (dVar 0)) (dVar 1)) (.tp [2, 3])) (dSeq (dAsg (dOp oAdd (dL oList (dCons (dFld cl "inputs" (dVar 0)) (dNil))) (dLc (dIter (dFld cl "lets" (dVar 0))) (.nm 5) dYes (dOp oIx (dVar 5) (dC (.int 0))) [5])) (.nm 4)) (dSeq (dIf (dtOr (dtNot (dtB (dChain oLe oLe (dC (.int 0)) (dVar 2) (dC (.int 3))))) (dtAnd (dtB (dOp oGt (dVar 1) (dC (.int 0)))) (dtB (dOp oLe (dVar 2) (dOp oIx (dOp oIx (dFld cl "outs" (dVar 0)) (dOp oSub (dVar 1) (dC (.int 1)))) (dC (.int 0))))))) (dRet (dC (.bl true))) (dNext)) (dRet (dNotV (dCall s_is_formula (dCons (dVar 3) (dCons (dFld cl "width" (dVar 0)) (dCons (dVar 4) (dCons (dC (.int 15)) (dNil))))))))))
/-! first_bad_line: text 0, line 1, at 2, calls bad_input is_formula bad_let bad_out -/
def b_first_bad_line (cl : CF) (s_bad_input s_is_formula s_bad_let s_bad_out : DSp) : DS := dSeq (dIf (dtNot (dtB (dChain oLe oLe (dC (.int 1)) (dFld cl "width" (dVar 0)) (dC (.int 4))))) (dRet (dC (.int 1))) (dNext)) (dSeq (dAsg (dC (.int 1)) (.nm 1)) (dSeq (dFor (dRng1 (dCons (dL oLen (dCons (dFld cl "inputs" (dVar 0)) (dNil))) (dNil))) (.nm 2) (dSeq (dAugAdd 1 (dC (.int 1))) (dIf (dtE (dCall s_bad_input (dCons (dVar 0) (dCons (dVar 2) (dNil))))) (dRet (dVar 1)) (dNext)))) (dSeq (dFor (dRng1 (dCons (dL oLen (dCons (dFld cl "needs" (dVar 0)) (dNil))) (dNil))) (.nm 2) (dSeq (dAugAdd 1 (dC (.int 1))) (dIf (dtOr (dtB (dOp oGe (dVar 2) (dC (.int 2)))) (dtNot (dtE (dCall s_is_formula (dCons (dOp oIx (dFld cl "needs" (dVar 0)) (dVar 2)) (dCons (dFld cl "width" (dVar 0)) (dCons (dFld cl "inputs" (dVar 0)) (dCons (dC (.int 15)) (dNil))))))))) (dRet (dVar 1)) (dNext)))) (dSeq (dFor (dRng1 (dCons (dL oLen (dCons (dFld cl "lets" (dVar 0)) (dNil))) (dNil))) (.nm 2) (dSeq (dAugAdd 1 (dC (.int 1))) (dIf (dtE (dCall s_bad_let (dCons (dVar 0) (dCons (dVar 2) (dNil))))) (dRet (dVar 1)) (dNext)))) (dSeq (dFor (dRng1 (dCons (dL oLen (dCons (dFld cl "outs" (dVar 0)) (dNil))) (dNil))) (.nm 2) (dSeq (dAugAdd 1 (dC (.int 1))) (dIf (dtE (dCall s_bad_out (dCons (dVar 0) (dCons (dVar 2) (dNil))))) (dRet (dVar 1)) (dNext)))) (dRet (dC (.int 0))))))))
/-! row_env: text 0, row 1, env 2, name 3, word 4, -/
def b_row_env (cl : CF) : DS := dSeq (dAsg (dNewK) (.nm 2)) (dSeq (dFor (dZip (dCons (dFld cl "inputs" (dVar 0)) (dCons (dVar 1) (dNil)))) (.tp [3, 4]) (dSetIx (dVar 4) (dVar 2) (dVar 3))) (dRet (dVar 2)))
/-! keeps_needs: text 0, row 1, env 2, formula 3, calls row_env formula_value -/
/-! let_rows: text 0, rows 1, row 2, calls all_rows keeps_needs -/
/-! text_outputs: text 0, row 1, env 2, name 3, formula 4, found 5, register 6, calls row_env formula_value -/
def b_text_outputs (cl : CF) (s_row_env s_formula_value : DSp) : DS := dSeq (dAsg (dCall s_row_env (dCons (dVar 0) (dCons (dVar 1) (dNil)))) (.nm 2)) (dSeq (dFor (dIter (dFld cl "lets" (dVar 0))) (.tp [3, 4]) (dSetIx (dCall s_formula_value (dCons (dVar 4) (dCons (dFld cl "width" (dVar 0)) (dCons (dVar 2) (dNil))))) (dVar 2) (dVar 3))) (dSeq (dAsg (dLst (dNil)) (.nm 5)) (dSeq (dFor (dIter (dFld cl "outs" (dVar 0))) (.tp [6, 4]) (dDrop (dApp (dVar 5) (dTup (dCons (dVar 6) (dCons (dCall s_formula_value (dCons (dVar 4) (dCons (dFld cl "width" (dVar 0)) (dCons (dVar 2) (dNil))))) (dNil))))))) (dRet (dL oTuple (dCons (dVar 5) (dNil)))))))
/-! _law_text: numbers 0, cursor 1, width 2, bits 3, many 4, base 5, inputs 6, k 7, needs 8, count 9, lets 10, known 11, formula 12, outs 13, register 14, calls _law_take _law_formula -/
/-! _law_rows_v2: width 0, many 1, rows 2, number 3, row 4, k 5, -/
/-! _law_env: data 0, row 1, env 2, k 3, -/
/-! _law_keeps: data 0, row 1, env 2, formula 3, calls _law_env _law_value -/
/-! _law_outputs: data 0, row 1, env 2, name 3, formula 4, out 5, calls _law_env _law_value -/
/-! _law_is_word: word 0, -/
/-! _law_same_outputs: told 0, due 1, pair 2, calls _law_is_word -/
/-! _law_same_rows: told 0, due 1, k 2, word 3, calls _law_is_word -/
/-! law_v2: script 0, numbers 1, cursor 2, data 3, text 4, rows 5, kept 6, row 7, due 8, k 9, told 10, stride 11, said 12, calls _law_stream _law_text _law_rows _law_keeps let_rows _law_same_rows keeps_needs _law_same_outputs _law_outputs text_outputs -/
/-! Text__init__: self 0, width 1, inputs 2, needs 3, lets 4, outs 5, name 6, formula 7, register 8, line 9, calls first_bad_line -/
def b_Text__init__ (cl : CF) (s_first_bad_line : DSp) : DS := dSeq (dSetFld cl "width" (dVar 1) (dVar 0)) (dSeq (dSetFld cl "inputs" (dL oTuple (dCons (dVar 2) (dNil))) (dVar 0)) (dSeq (dSetFld cl "needs" (dL oTuple (dCons (dVar 3) (dNil))) (dVar 0)) (dSeq (dSetFld cl "lets" (dL oTuple (dCons (dLc (dIter (dVar 4)) (.tp [6, 7]) dYes (dTup (dCons (dVar 6) (dCons (dVar 7) (dNil)))) [6, 7]) (dNil))) (dVar 0)) (dSeq (dSetFld cl "outs" (dL oTuple (dCons (dLc (dIter (dVar 5)) (.tp [8, 7]) dYes (dTup (dCons (dVar 8) (dCons (dVar 7) (dNil)))) [8, 7]) (dNil))) (dVar 0)) (dSeq (dAsg (dCall s_first_bad_line (dCons (dVar 0) (dNil))) (.nm 9)) (dIf (dtB (dOp oGt (dVar 9) (dC (.int 0)))) (dNever) (dNext)))))))
/-! _law_name: numbers 0, cursor 1, at 2, plain 3, letters 4, name 5, k 6, calls _law_take -/
/-! _law_arity_v2: word 0, -/
/-! _law_formula_v2: numbers 0, cursor 1, names 2, width 3, depth 4, words 5, word 6, parts 7, k 8, calls _law_take _law_arity _law_formula -/
/-! _law_odd: choice 0, names 1, width 2, leaf 3, deep 4, k 5, long 6, wide 7, last 8, odd 9, -/
/-! _law_size_v2: formula 0, total 1, part 2, calls _law_size -/
/-! _law_shape: formula 0, width 1, names 2, depth 3, good 4, part 5, calls _law_arity _law_shape -/
/-! _law_good: formula 0, width 1, names 2, calls _law_shape _law_size -/
/-! _law_good_name: name 0, sign 1, calls _law_arity -/
/-! _law_due: width 0, inputs 1, needs 2, lets 3, outs 4, line 5, known 6, at 7, before 8, register 9, formula 10, calls _law_good_name _law_good -/
/-! _law_data: numbers 0, cursor 1, width 2, plain 3, most 4, inputs 5, k 6, needs 7, many 8, lets 9, known 10, name 11, outs 12, register 13, calls _law_take _law_name _law_formula -/
/-! _law_spoil: numbers 0, cursor 1, data 2, known 3, row 4, odd 5, names 6, name 7, place 8, kind 9, at 10, calls _law_odd _law_take -/
/-! _law_holds: text 0, data 1, told 2, row 3, -/
/-! law_v3: script 0, numbers 1, cursor 2, data 3, spoils 4, k 5, due 6, handed 7, line 8, text 9, row 10, e 11, calls _law_stream _law_data _law_take _law_spoil _law_due _law_holds -/
/-! Text__init___v3: self 0, width 1, inputs 2, needs 3, lets 4, outs 5, name 6, formula 7, register 8, line 9, calls first_bad_line -/
/-! check_code: book 0, code 1, at 2, -/
def b_check_code (c_Book : Addr) (s_Bookis_step : DSp) : DS := dFor (dRng1 (dCons (dL oLen (dCons (dVar 1) (dNil))) (dNil))) (.nm 2) (dIf (dtOr (dtB (dOp oGe (dVar 2) (dC (.int 200)))) (dtNot (dtE (dMeth c_Book "is_step" s_Bookis_step (dVar 0) (dCons (dOp oIx (dVar 1) (dVar 2)) (dNil)))))) (dNever) (dNext))
/-! check_code_x: book 0, code 1, at 2, -/
def b_check_code_x (c_Book : Addr) (c_BadCode : Addr) (s_Bookis_step : DSp) : DS := dFor (dRng1 (dCons (dL oLen (dCons (dVar 1) (dNil))) (dNil))) (.nm 2) (dIf (dtOr (dtB (dOp oGe (dVar 2) (dC (.int 200)))) (dtNot (dtE (dMeth c_Book "is_step" s_Bookis_step (dVar 0) (dCons (dOp oIx (dVar 1) (dVar 2)) (dNil)))))) (dRaise c_BadCode "at" okNatD (dVar 2)) (dNext))
/-! begin_state: book 0, row 1, -/
/-! step_word: book 0, step 1, state 2, name 3, sources 4, word 5, target 6, env 7, letter 8, source 9, calls formula_value -/
/-! step_state: book 0, step 1, state 2, target 3, calls step_word -/
/-! run_code: book 0, code 1, state 2, step 3, calls check_code step_state -/
/-! run_code_x: book 0, code 1, state 2, step 3, calls step_state -/
/-! code_price: book 0, code 1, total 2, step 3, calls check_code -/
/-! code_price_x: book 0, code 1, total 2, step 3, -/
/-! source_count: formula 0, names 1, calls formula_names -/
def b_source_count (s_formula_names : DSp) : DS := dSeq (dAsg (dCall s_formula_names (dCons (dVar 0) (dNil))) (.nm 1)) (dRet (dOp oAdd (dL oInt1 (dCons (dOp (oIn false) (dC (.str "a")) (dVar 1)) (dNil))) (dL oInt1 (dCons (dOp (oIn false) (dC (.str "b")) (dVar 1)) (dNil)))))
/-! takes_word: formula 0, calls formula_names -/
def b_takes_word (s_formula_names : DSp) : DS := dRet (dOp (oIn false) (dC (.str "k")) (dCall s_formula_names (dCons (dVar 0) (dNil))))
/-! source_rows: registers 0, many 1, rows 2, _ 3, row 4, register 5, -/
/-! step_count: book 0, formula 1, many 2, _ 3, calls source_count takes_word -/
/-! bad_deed: book 0, at 1, name 2, price 3, formula 4, row 5, names 6, calls is_name is_formula formula_names -/
def b_bad_deed (cl : CF) (s_is_name s_is_formula s_formula_names : DSp) : DS := dSeq (dAsg (dOp oIx (dFld cl "deeds" (dVar 0)) (dVar 1)) (.tp [2, 3, 4])) (dSeq (dIf (dtOr (dtB (dOp oGe (dVar 1) (dC (.int 6)))) (dtOr (dtNot (dtE (dCall s_is_name (dCons (dVar 2) (dNil))))) (dtB (dOp (oIn false) (dVar 2) (dLc (dIter (dSl (dFld cl "deeds" (dVar 0)) dNoPart (dPart (dVar 1)))) (.nm 5) dYes (dOp oIx (dVar 5) (dC (.int 0))) [5]))))) (dRet (dC (.bl true))) (dNext)) (dSeq (dIf (dtNot (dtB (dChain oLe oLe (dC (.int 1)) (dVar 3) (dC (.int 9))))) (dRet (dC (.bl true))) (dNext)) (dSeq (dIf (dtNot (dtE (dCall s_is_formula (dCons (dVar 4) (dCons (dFld cl "width" (dVar 0)) (dCons (dTup (dCons (dC (.str "a")) (dCons (dC (.str "b")) (dCons (dC (.str "k")) (dNil))))) (dCons (dC (.int 9)) (dNil)))))))) (dRet (dC (.bl true))) (dNext)) (dSeq (dAsg (dCall s_formula_names (dCons (dVar 4) (dNil))) (.nm 6)) (dRet (dAndV (dOp (oIn false) (dC (.str "b")) (dVar 6)) (dOp (oIn true) (dC (.str "a")) (dVar 6))))))))
/-! bad_words: book 0, at 1, calls word_limit -/
def b_bad_words (cl : CF) (s_word_limit : DSp) : DS := dSeq (dFor (dRng1 (dCons (dL oLen (dCons (dFld cl "words" (dVar 0)) (dNil))) (dNil))) (.nm 1) (dSeq (dIf (dtNot (dtB (dChain oLe oLt (dC (.int 0)) (dOp oIx (dFld cl "words" (dVar 0)) (dVar 1)) (dCall s_word_limit (dCons (dFld cl "width" (dVar 0)) (dNil)))))) (dRet (dC (.bl true))) (dNext)) (dIf (dtAnd (dtB (dOp oGt (dVar 1) (dC (.int 0)))) (dtB (dOp oLe (dOp oIx (dFld cl "words" (dVar 0)) (dVar 1)) (dOp oIx (dFld cl "words" (dVar 0)) (dOp oSub (dVar 1) (dC (.int 1))))))) (dRet (dC (.bl true))) (dNext)))) (dRet (dC (.bl false)))
/-! first_bad_line_v2: book 0, at 1, calls bad_words bad_deed -/
def b_first_bad_line_v2 (cl : CF) (s_bad_words s_bad_deed : DSp) : DS := dSeq (dIf (dtNot (dtB (dChain oLe oLe (dC (.int 1)) (dFld cl "width" (dVar 0)) (dC (.int 4))))) (dRet (dC (.int 1))) (dNext)) (dSeq (dIf (dtOr (dtNot (dtB (dChain oLe oLe (dC (.int 1)) (dFld cl "registers" (dVar 0)) (dC (.int 4))))) (dtB (dOp oGt (dOp oMul (dFld cl "width" (dVar 0)) (dFld cl "registers" (dVar 0))) (dC (.int 8))))) (dRet (dC (.int 2))) (dNext)) (dSeq (dIf (dtE (dCall s_bad_words (dCons (dVar 0) (dNil)))) (dRet (dC (.int 3))) (dNext)) (dSeq (dFor (dRng1 (dCons (dL oLen (dCons (dFld cl "deeds" (dVar 0)) (dNil))) (dNil))) (.nm 1) (dIf (dtE (dCall s_bad_deed (dCons (dVar 0) (dCons (dVar 1) (dNil))))) (dRet (dOp oAdd (dC (.int 4)) (dVar 1))) (dNext))) (dSeq (dIf (dtB (dOp oEq (dL oLen (dCons (dFld cl "deeds" (dVar 0)) (dNil))) (dC (.int 0)))) (dRet (dC (.int 4))) (dNext)) (dRet (dC (.int 0)))))))
/-! _law_book: numbers 0, cursor 1, width 2, registers 3, words 4, word 5, count 6, base 7, deeds 8, k 9, known 10, formula 11, name 12, calls _law_take _law_formula _law_names _law_size -/
/-! _law_names_v2: formula 0, found 1, part 2, calls _law_names -/
def b__law_names_v2 (s__law_names : DSp) : DS := dSeq (dIf (dtE (dIs [.str] (dVar 0))) (dRet (dLst (dCons (dVar 0) (dNil)))) (dNext)) (dSeq (dAsg (dLst (dNil)) (.nm 1)) (dSeq (dIf (dtE (dIs [.tup] (dVar 0))) (dFor (dIter (dSl (dVar 0) (dPart (dC (.int 1))) dNoPart)) (.nm 2) (dAsg (dOp oAdd (dVar 1) (dCall s__law_names (dCons (dVar 2) (dNil)))) (.nm 1))) (dNext)) (dRet (dVar 1))))
/-! _law_sources: formula 0, names 1, calls _law_names -/
/-! _law_steps: data 0, found 1, name 2, price 3, formula 4, sources 5, register 6, k 7, words 8, row 9, word 10, target 11, calls _law_sources _law_names -/
/-! _law_deed: data 0, name 1, row 2, -/
def b__law_deed : DS := dSeq (dFor (dIter (dOp oIx (dVar 0) (dC (.int 3)))) (.nm 2) (dIf (dtB (dOp oEq (dOp oIx (dVar 2) (dC (.int 0))) (dVar 1))) (dRet (dVar 2)) (dNext))) (dRet (dC .non))
/-! _law_many: data 0, steps 1, many 2, price 3, step 4, calls _law_deed -/
/-! _law_counts: many 0, most 1, counts 2, total 3, price 4, -/
/-! _law_after: data 0, step 1, state 2, env 3, k 4, word 5, calls _law_value _law_deed -/
def b__law_after (s__law_value s__law_deed : DSp) : DS := dSeq (dAsg (dDisp [(dC (.str "k"), dOp oIx (dVar 1) (dC (.int 2)))]) (.nm 3)) (dSeq (dFor (dRng1 (dCons (dL oLen (dCons (dOp oIx (dVar 1) (dC (.int 1))) (dNil))) (dNil))) (.nm 4) (dSetIx (dOp oIx (dVar 2) (dOp oIx (dOp oIx (dVar 1) (dC (.int 1))) (dVar 4))) (dVar 3) (dOp oIx (dC (.str "ab")) (dVar 4)))) (dSeq (dAsg (dCall s__law_value (dCons (dOp oIx (dCall s__law_deed (dCons (dVar 0) (dCons (dOp oIx (dVar 1) (dC (.int 0))) (dNil)))) (dC (.int 2))) (dCons (dOp oIx (dVar 0) (dC (.int 0))) (dCons (dVar 3) (dNil))))) (.nm 5)) (dRet (dOp oAdd (dOp oAdd (dSl (dVar 2) dNoPart (dPart (dOp oIx (dVar 1) (dC (.int 3))))) (dTup (dCons (dVar 5) (dNil)))) (dSl (dVar 2) (dPart (dOp oAdd (dOp oIx (dVar 1) (dC (.int 3))) (dC (.int 1)))) dNoPart)))))
/-! _law_spoilt_v2: numbers 0, cursor 1, data 2, step 3, name 4, sources 5, word 6, target 7, kind 8, free 9, calls _law_take -/
/-! _law_is_state: told 0, due 1, word 2, -/
/-! _law_bad: book 0, code 1, state 2, kind 3, e 4, -/
/-! _law_unknown: book 0, name 1, e 2, -/
/-! _law_book_asked: numbers 0, cursor 1, data 2, book 3, steps 4, told 5, row 6, many 7, most 8, calls _law_unknown _law_many _law_take _law_is_whole _law_counts -/
/-! law_v4: script 0, numbers 1, cursor 2, data 3, book 4, steps 5, many 6, code 7, k 8, due 9, at 10, said 11, state 12, row 13, handed 14, kind 15, price 16, step 17, end 18, calls _law_stream _law_book _law_steps _law_book_asked _law_take _law_spoilt _law_is_state begin_state _law_bad _law_deed _law_after step_state check_code _law_is_whole code_price run_code -/
/-! Book__init__: self 0, width 1, registers 2, words 3, deeds 4, name 5, price 6, formula 7, line 8, calls first_bad_line -/
def b_Book__init__ (cl : CF) (s_first_bad_line : DSp) : DS := dSeq (dSetFld cl "width" (dVar 1) (dVar 0)) (dSeq (dSetFld cl "registers" (dVar 2) (dVar 0)) (dSeq (dSetFld cl "words" (dL oTuple (dCons (dVar 3) (dNil))) (dVar 0)) (dSeq (dSetFld cl "deeds" (dL oTuple (dCons (dLc (dIter (dVar 4)) (.tp [5, 6, 7]) dYes (dTup (dCons (dVar 5) (dCons (dVar 6) (dCons (dVar 7) (dNil))))) [5, 6, 7]) (dNil))) (dVar 0)) (dSeq (dAsg (dCall s_first_bad_line (dCons (dVar 0) (dNil))) (.nm 8)) (dIf (dtB (dOp oGt (dVar 8) (dC (.int 0)))) (dNever) (dNext))))))
/-! Bookdeed: self 0, name 1, row 2, -/
def b_Bookdeed (cl : CF) : DS := dSeq (dFor (dIter (dFld cl "deeds" (dVar 0))) (.nm 2) (dIf (dtB (dOp oEq (dOp oIx (dVar 2) (dC (.int 0))) (dVar 1))) (dRet (dVar 2)) (dNext))) (dNever)
/-! Bookdeed_x: self 0, name 1, row 2, -/
/-! Bookis_step: self 0, step 1, name 2, sources 3, word 4, target 5, row 6, source 7, calls source_count takes_word -/
def b_Bookis_step (cl : CF) (s_source_count s_takes_word : DSp) : DS := dSeq (dAsg (dVar 1) (.tp [2, 3, 4, 5])) (dSeq (dFor (dIter (dFld cl "deeds" (dVar 0))) (.nm 6) (dIf (dtB (dOp oEq (dOp oIx (dVar 6) (dC (.int 0))) (dVar 2))) (dSeq (dIf (dtOr (dtB (dOp oNe (dL oLen (dCons (dVar 3) (dNil))) (dCall s_source_count (dCons (dOp oIx (dVar 6) (dC (.int 2))) (dNil))))) (dtNot (dtB (dChain oLe oLt (dC (.int 0)) (dVar 5) (dFld cl "registers" (dVar 0)))))) (dRet (dC (.bl false))) (dNext)) (dSeq (dIf (dtOr (dtB (dOp oNe (dCall s_takes_word (dCons (dOp oIx (dVar 6) (dC (.int 2))) (dNil))) (dOp (oIs true) (dVar 4) (dC .non)))) (dtAnd (dtB (dOp (oIs true) (dVar 4) (dC .non))) (dtB (dOp (oIn true) (dVar 4) (dFld cl "words" (dVar 0)))))) (dRet (dC (.bl false))) (dNext)) (dRet (dL oAllL (dCons (dLc (dIter (dVar 3)) (.nm 7) dYes (dChain oLe oLt (dC (.int 0)) (dVar 7) (dFld cl "registers" (dVar 0))) [7]) (dNil)))))) (dNext))) (dRet (dC (.bl false))))
/-! Booksteps: self 0, found 1, name 2, price 3, formula 4, words 5, sources 6, word 7, target 8, calls takes_word source_rows source_count -/
/-! Bookcodes_within: self 0, most 1, counts 2, total 3, many 4, name 5, price 6, formula 7, calls step_count -/
/-! code_text: book 0, code 1, ends 2, inputs 3, register 4, holders 5, lets 6, at 7, name 8, sources 9, word 10, target 11, env 12, letter 13, source 14, calls check_code put_in -/
def b_code_text (cl : CF) (c_Text : Addr) (s_Text : DSp) (c_Book : Addr) (s_Bookdeed s_check_code s_put_in : DSp) : DS := dSeq (dDrop (dCall s_check_code (dCons (dVar 0) (dCons (dVar 1) (dNil))))) (dSeq (dIf (dtB (dOp oGt (dL oLen (dCons (dVar 1) (dNil))) (dC (.int 60)))) (dNever) (dNext)) (dSeq (dAsg (dLc (dRng1 (dCons (dFld cl "registers" (dVar 0)) (dNil))) (.nm 4) dYes (dFs "r" (dVar 4)) [4]) (.nm 3)) (dSeq (dAsg (dL oList (dCons (dVar 3) (dNil))) (.nm 5)) (dSeq (dAsg (dLst (dNil)) (.nm 6)) (dSeq (dFor (dEnum (dCons (dVar 1) (dNil))) (.nt 7 [8, 9, 10, 11]) (dSeq (dAsg (dDisp [(dC (.str "k"), dVar 10)]) (.nm 12)) (dSeq (dFor (dZip (dCons (dC (.str "ab")) (dCons (dVar 9) (dNil)))) (.tp [13, 14]) (dSetIx (dOp oIx (dVar 5) (dVar 14)) (dVar 12) (dVar 13))) (dSeq (dSetIx (dFs "t" (dVar 7)) (dVar 5) (dVar 11)) (dDrop (dApp (dVar 6) (dTup (dCons (dOp oIx (dVar 5) (dVar 11)) (dCons (dCall s_put_in (dCons (dOp oIx (dMeth c_Book "deed" s_Bookdeed (dVar 0) (dCons (dVar 8) (dNil))) (dC (.int 2))) (dCons (dVar 12) (dNil)))) (dNil)))))))))) (dRet (dMake c_Text s_Text (dCons (dFld cl "width" (dVar 0)) (dCons (dVar 3) (dCons (dLst (dNil)) (dCons (dVar 6) (dCons (dLc (dIter (dVar 2)) (.nm 4) dYes (dTup (dCons (dVar 4) (dCons (dOp oIx (dVar 5) (dVar 4)) (dNil)))) [4]) (dNil)))))))))))))
/-! code_text_x: book 0, code 1, ends 2, inputs 3, register 4, holders 5, lets 6, at 7, name 8, sources 9, word 10, target 11, env 12, letter 13, source 14, calls put_in -/
def b_code_text_x (cl : CF) (c_Text : Addr) (s_Text : DSp) (c_Book : Addr) (c_TooMany : Addr) (s_Bookdeed s_check_codeX s_put_in : DSp) : DS := dSeq (dDropR (dCallX s_check_codeX (dCons (dVar 0) (dCons (dVar 1) (dNil))))) (dSeq (dIf (dtB (dOp oGt (dL oLen (dCons (dVar 1) (dNil))) (dC (.int 60)))) (dRaise c_TooMany "limit" okNatD (dC (.int 60))) (dNext)) (dSeq (dAsg (dLc (dRng1 (dCons (dFld cl "registers" (dVar 0)) (dNil))) (.nm 4) dYes (dFs "r" (dVar 4)) [4]) (.nm 3)) (dSeq (dAsg (dL oList (dCons (dVar 3) (dNil))) (.nm 5)) (dSeq (dAsg (dLst (dNil)) (.nm 6)) (dSeq (dFor (dEnum (dCons (dVar 1) (dNil))) (.nt 7 [8, 9, 10, 11]) (dSeq (dAsg (dDisp [(dC (.str "k"), dVar 10)]) (.nm 12)) (dSeq (dFor (dZip (dCons (dC (.str "ab")) (dCons (dVar 9) (dNil)))) (.tp [13, 14]) (dSetIx (dOp oIx (dVar 5) (dVar 14)) (dVar 12) (dVar 13))) (dSeq (dSetIx (dFs "t" (dVar 7)) (dVar 5) (dVar 11)) (dDrop (dApp (dVar 6) (dTup (dCons (dOp oIx (dVar 5) (dVar 11)) (dCons (dCall s_put_in (dCons (dOp oIx (dMeth c_Book "deed" s_Bookdeed (dVar 0) (dCons (dVar 8) (dNil))) (dC (.int 2))) (dCons (dVar 12) (dNil)))) (dNil)))))))))) (dRet (dMake c_Text s_Text (dCons (dFld cl "width" (dVar 0)) (dCons (dVar 3) (dCons (dLst (dNil)) (dCons (dVar 6) (dCons (dLc (dIter (dVar 2)) (.nm 4) dYes (dTup (dCons (dVar 4) (dCons (dOp oIx (dVar 5) (dVar 4)) (dNil)))) [4]) (dNil)))))))))))))
/-! live_ahead: step 0, live 1, name 2, sources 3, word 4, target 5, kept 6, register 7, -/
def b_live_ahead : DS := dSeq (dAsg (dVar 0) (.tp [2, 3, 4, 5])) (dSeq (dAsg (dLc (dIter (dVar 1)) (.nm 7) (dtB (dOp oNe (dVar 7) (dVar 5))) (dVar 7) [7]) (.nm 6)) (dRet (dL oTuple (dCons (dSrtSet (dLst (dStar (dVar 6) (dStar (dVar 3) (dNil))))) (dNil)))))
/-! live_sets: book 0, code 1, ends 2, found 3, step 4, calls check_code live_ahead -/
def b_live_sets (s_check_code s_live_ahead : DSp) : DS := dSeq (dDrop (dCall s_check_code (dCons (dVar 0) (dCons (dVar 1) (dNil))))) (dSeq (dAsg (dLst (dCons (dL oTuple (dCons (dVar 2) (dNil))) (dNil))) (.nm 3)) (dSeq (dFor (dIter (dRevL (dVar 1))) (.nm 4) (dDrop (dApp (dVar 3) (dCall s_live_ahead (dCons (dVar 4) (dCons (dOp oIx (dVar 3) (dUn oNeg (dC (.int 1)))) (dNil))))))) (dRet (dRevL (dVar 3)))))
/-! live_sets_x: book 0, code 1, ends 2, found 3, step 4, calls live_ahead -/
def b_live_sets_x (s_check_codeX s_live_ahead : DSp) : DS := dSeq (dDropR (dCallX s_check_codeX (dCons (dVar 0) (dCons (dVar 1) (dNil))))) (dSeq (dAsg (dLst (dCons (dL oTuple (dCons (dVar 2) (dNil))) (dNil))) (.nm 3)) (dSeq (dFor (dIter (dRevL (dVar 1))) (.nm 4) (dDrop (dApp (dVar 3) (dCall s_live_ahead (dCons (dVar 4) (dCons (dOp oIx (dVar 3) (dUn oNeg (dC (.int 1)))) (dNil))))))) (dRet (dRevL (dVar 3)))))
/-! window_text: book 0, code 1, ends 2, at 3, length 4, live 5, calls live_sets code_text -/
def b_window_text (s_live_sets s_code_text : DSp) : DS := dSeq (dAsg (dCall s_live_sets (dCons (dVar 0) (dCons (dVar 1) (dCons (dVar 2) (dNil))))) (.nm 5)) (dRet (dCall s_code_text (dCons (dVar 0) (dCons (dSl (dVar 1) (dPart (dVar 3)) (dPart (dOp oAdd (dVar 3) (dVar 4)))) (dCons (dOp oIx (dVar 5) (dOp oAdd (dVar 3) (dVar 4))) (dNil))))))
/-! window_text_x: book 0, code 1, ends 2, at 3, length 4, live 5, -/
def b_window_text_x (s_live_setsX s_code_textX : DSp) : DS := dSeq (dAsgR (dCallX s_live_setsX (dCons (dVar 0) (dCons (dVar 1) (dCons (dVar 2) (dNil))))) 5) (dRetR (dCallX s_code_textX (dCons (dVar 0) (dCons (dSl (dVar 1) (dPart (dVar 3)) (dPart (dOp oAdd (dVar 3) (dVar 4)))) (dCons (dOp oIx (dVar 5) (dOp oAdd (dVar 3) (dVar 4))) (dNil))))))
/-! _law_formula_v3: numbers 0, cursor 1, width 2, kind 3, words 4, word 5, number 6, calls _law_take -/
def b__law_formula_v3 (s__law_take : DSp) : DS := dSeq (dAsg (dCall s__law_take (dCons (dVar 0) (dCons (dVar 1) (dCons (dC (.int 8)) (dNil))))) (.nm 3)) (dSeq (dAsg (dLst (dCons (dC (.str "add")) (dCons (dC (.str "xor")) (dCons (dC (.str "and")) (dCons (dC (.str "or")) (dCons (dC (.str "sub")) (dCons (dC (.str "mul")) (dCons (dC (.str "shl")) (dCons (dC (.str "shr")) (dCons (dC (.str "eq")) (dCons (dC (.str "lt")) (dCons (dC (.str "slt")) (dNil))))))))))))) (.nm 4)) (dSeq (dAsg (dOp oIx (dVar 4) (dCall s__law_take (dCons (dVar 0) (dCons (dVar 1) (dCons (dC (.int 11)) (dNil)))))) (.nm 5)) (dSeq (dAsg (dCall s__law_take (dCons (dVar 0) (dCons (dVar 1) (dCons (dOp oShl (dC (.int 1)) (dVar 2)) (dNil))))) (.nm 6)) (dSeq (dIf (dtB (dOp oLt (dVar 3) (dC (.int 2)))) (dRet (dTup (dCons (dVar 5) (dCons (dC (.str "a")) (dCons (dC (.str "k")) (dNil)))))) (dNext)) (dSeq (dIf (dtB (dOp oEq (dVar 3) (dC (.int 2)))) (dRet (dOp oIx (dLst (dCons (dC (.str "k")) (dCons (dTup (dCons (dC (.str "not")) (dCons (dC (.str "k")) (dNil)))) (dCons (dTup (dCons (dC (.str "neg")) (dCons (dC (.str "k")) (dNil)))) (dNil))))) (dOp oMod (dL oInt1 (dCons (dVar 6) (dNil))) (dC (.int 3))))) (dNext)) (dSeq (dIf (dtB (dOp oLt (dVar 3) (dC (.int 5)))) (dRet (dTup (dCons (dVar 5) (dCons (dC (.str "a")) (dCons (dC (.str "b")) (dNil)))))) (dNext)) (dSeq (dIf (dtB (dOp oEq (dVar 3) (dC (.int 5)))) (dRet (dOp oIx (dLst (dCons (dC (.str "a")) (dCons (dTup (dCons (dC (.str "not")) (dCons (dC (.str "a")) (dNil)))) (dCons (dTup (dCons (dC (.str "neg")) (dCons (dC (.str "a")) (dNil)))) (dCons (dTup (dCons (dVar 5) (dCons (dC (.str "a")) (dCons (dVar 6) (dNil))))) (dNil)))))) (dCall s__law_take (dCons (dVar 0) (dCons (dVar 1) (dCons (dC (.int 4)) (dNil))))))) (dNext)) (dSeq (dIf (dtB (dOp oEq (dVar 3) (dC (.int 6)))) (dRet (dTup (dCons (dVar 5) (dCons (dTup (dCons (dC (.str "xor")) (dCons (dC (.str "a")) (dCons (dC (.str "k")) (dNil))))) (dCons (dVar 6) (dNil)))))) (dNext)) (dRet (dOp oIx (dLst (dCons (dTup (dCons (dC (.str "pick")) (dCons (dC (.str "a")) (dCons (dC (.str "b")) (dCons (dC (.str "k")) (dNil)))))) (dCons (dTup (dCons (dVar 5) (dCons (dC (.str "b")) (dCons (dTup (dCons (dC (.str "add")) (dCons (dC (.str "a")) (dCons (dC (.str "k")) (dNil))))) (dNil))))) (dCons (dVar 6) (dNil))))) (dCall s__law_take (dCons (dVar 0) (dCons (dVar 1) (dCons (dC (.int 3)) (dNil)))))))))))))))
/-! _law_book_v2: numbers 0, cursor 1, width 2, registers 3, words 4, word 5, count 6, plain 7, base 8, deeds 9, k 10, formula 11, price 12, calls _law_take _law_formula _law_names -/
def b__law_book_v2 (s__law_take s__law_formula s__law_names : DSp) : DS := dSeq (dAsg (dOp oAdd (dC (.int 1)) (dCall s__law_take (dCons (dVar 0) (dCons (dVar 1) (dCons (dC (.int 4)) (dNil)))))) (.nm 2)) (dSeq (dAsg (dOp oAdd (dC (.int 1)) (dCall s__law_take (dCons (dVar 0) (dCons (dVar 1) (dCons (dL oMin2 (dCons (dC (.int 4)) (dCons (dOp oFdiv (dC (.int 8)) (dVar 2)) (dNil)))) (dNil)))))) (.nm 3)) (dSeq (dAsg (dSl (dLc (dRng1 (dCons (dOp oShl (dC (.int 1)) (dVar 2)) (dNil))) (.nm 5) (dtB (dOp oEq (dCall s__law_take (dCons (dVar 0) (dCons (dVar 1) (dCons (dC (.int 2)) (dNil))))) (dC (.int 0)))) (dVar 5) [5]) dNoPart (dPart (dC (.int 3)))) (.nm 4)) (dSeq (dAsg (dOp oAdd (dC (.int 2)) (dCall s__law_take (dCons (dVar 0) (dCons (dVar 1) (dCons (dC (.int 5)) (dNil)))))) (.nm 6)) (dSeq (dAsg (dCall s__law_take (dCons (dVar 0) (dCons (dVar 1) (dCons (dVar 6) (dNil))))) (.nm 7)) (dSeq (dAsg (dCall s__law_take (dCons (dVar 0) (dCons (dVar 1) (dCons (dC (.int 6)) (dNil))))) (.nm 8)) (dSeq (dAsg (dLst (dNil)) (.nm 9)) (dSeq (dFor (dRng1 (dCons (dVar 6) (dNil))) (.nm 10) (dSeq (dAsg (dCall s__law_formula (dCons (dVar 0) (dCons (dVar 1) (dCons (dVar 2) (dNil))))) (.nm 11)) (dSeq (dIf (dtAnd (dtB (dOp oEq (dVar 10) (dVar 7))) (dtB (dOp (oIn false) (dC (.str "k")) (dCall s__law_names (dCons (dVar 11) (dNil)))))) (dAsg (dOp oIx (dLst (dCons (dTup (dCons (dC (.str "not")) (dCons (dC (.str "a")) (dNil)))) (dCons (dTup (dCons (dC (.str "add")) (dCons (dC (.str "a")) (dCons (dC (.str "b")) (dNil))))) (dCons (dC (.int 1)) (dNil))))) (dCall s__law_take (dCons (dVar 0) (dCons (dVar 1) (dCons (dC (.int 3)) (dNil)))))) (.nm 11)) (dNext)) (dSeq (dAsg (dOp oAdd (dC (.int 1)) (dCall s__law_take (dCons (dVar 0) (dCons (dVar 1) (dCons (dC (.int 9)) (dNil)))))) (.nm 12)) (dDrop (dApp (dVar 9) (dTup (dCons (dOp oIx (dLst (dCons (dC (.str "add")) (dCons (dC (.str "x")) (dCons (dC (.str "nand1")) (dCons (dC (.str "shlk")) (dCons (dC (.str "q7")) (dCons (dC (.str "set")) (dNil)))))))) (dOp oMod (dOp oAdd (dVar 10) (dVar 8)) (dC (.int 6)))) (dCons (dVar 12) (dCons (dVar 11) (dNil))))))))))) (dRet (dLst (dCons (dVar 2) (dCons (dVar 3) (dCons (dVar 4) (dCons (dVar 9) (dNil))))))))))))))
/-! _law_rows_v3: words 0, many 1, rows 2, k 3, longer 4, row 5, word 6, -/
def b__law_rows_v3 : DS := dSeq (dAsg (dLst (dCons (dTup (dNil)) (dNil))) (.nm 2)) (dSeq (dFor (dRng1 (dCons (dVar 1) (dNil))) (.nm 3) (dSeq (dAsg (dLst (dNil)) (.nm 4)) (dSeq (dFor (dIter (dVar 2)) (.nm 5) (dFor (dIter (dVar 0)) (.nm 6) (dDrop (dApp (dVar 4) (dOp oAdd (dVar 5) (dTup (dCons (dVar 6) (dNil)))))))) (dAsg (dVar 4) (.nm 2))))) (dRet (dVar 2)))
/-! _law_steps_v2: data 0, registers 1, found 2, name 3, price 4, formula 5, names 6, words 7, row 8, word 9, target 10, calls _law_names _law_rows -/
def b__law_steps_v2 (s__law_names s__law_rows : DSp) : DS := dSeq (dAsg (dLst (dNil)) (.nm 2)) (dSeq (dFor (dIter (dOp oIx (dVar 0) (dC (.int 3)))) (.tp [3, 4, 5]) (dSeq (dAsg (dCall s__law_names (dCons (dVar 5) (dNil))) (.nm 6)) (dSeq (dAsg (dLst (dCons (dC .non) (dNil))) (.nm 7)) (dSeq (dIf (dtB (dOp (oIn false) (dC (.str "k")) (dVar 6))) (dAsg (dOp oIx (dVar 0) (dC (.int 2))) (.nm 7)) (dNext)) (dFor (dIter (dCall s__law_rows (dCons (dLstRg (dVar 1)) (dCons (dOp oAdd (dL oInt1 (dCons (dOp (oIn false) (dC (.str "a")) (dVar 6)) (dNil))) (dL oInt1 (dCons (dOp (oIn false) (dC (.str "b")) (dVar 6)) (dNil)))) (dNil))))) (.nm 8) (dFor (dIter (dVar 7)) (.nm 9) (dFor (dRng1 (dCons (dVar 1) (dNil))) (.nm 10) (dDrop (dApp (dVar 2) (dTup (dCons (dVar 3) (dCons (dVar 8) (dCons (dVar 9) (dCons (dVar 10) (dNil))))))))))))))) (dRet (dVar 2)))
/-! _law_spoilt_v3: numbers 0, cursor 1, data 2, step 3, kind 4, calls _law_take -/
def b__law_spoilt_v3 (s__law_take : DSp) : DS := dSeq (dAsg (dCall s__law_take (dCons (dVar 0) (dCons (dVar 1) (dCons (dC (.int 5)) (dNil))))) (.nm 4)) (dSeq (dIf (dtB (dOp oEq (dVar 4) (dC (.int 0)))) (dRet (dTup (dCons (dC (.str "zz")) (dCons (dOp oIx (dVar 3) (dC (.int 1))) (dCons (dOp oIx (dVar 3) (dC (.int 2))) (dCons (dOp oIx (dVar 3) (dC (.int 3))) (dNil))))))) (dNext)) (dSeq (dIf (dtB (dOp oEq (dVar 4) (dC (.int 1)))) (dRet (dTup (dCons (dOp oIx (dVar 3) (dC (.int 0))) (dCons (dOp oIx (dVar 3) (dC (.int 1))) (dCons (dOp oIx (dVar 3) (dC (.int 2))) (dCons (dOp oIx (dVar 2) (dC (.int 1))) (dNil))))))) (dNext)) (dSeq (dIf (dtB (dOp oEq (dVar 4) (dC (.int 2)))) (dRet (dTup (dCons (dOp oIx (dVar 3) (dC (.int 0))) (dCons (dOp oAdd (dOp oIx (dVar 3) (dC (.int 1))) (dTup (dCons (dC (.int 0)) (dNil)))) (dCons (dOp oIx (dVar 3) (dC (.int 2))) (dCons (dOp oIx (dVar 3) (dC (.int 3))) (dNil))))))) (dNext)) (dSeq (dIf (dtAnd (dtB (dOp oEq (dVar 4) (dC (.int 3)))) (dtB (dOp oGt (dL oLen (dCons (dOp oIx (dVar 3) (dC (.int 1))) (dNil))) (dC (.int 0))))) (dRet (dTup (dCons (dOp oIx (dVar 3) (dC (.int 0))) (dCons (dOp oAdd (dSl (dOp oIx (dVar 3) (dC (.int 1))) (dPart (dC (.int 1))) dNoPart) (dTup (dCons (dUn oNeg (dC (.int 1))) (dNil)))) (dCons (dOp oIx (dVar 3) (dC (.int 2))) (dCons (dOp oIx (dVar 3) (dC (.int 3))) (dNil))))))) (dNext)) (dSeq (dIf (dtB (dOp (oIs false) (dOp oIx (dVar 3) (dC (.int 2))) (dC .non))) (dRet (dTup (dCons (dOp oIx (dVar 3) (dC (.int 0))) (dCons (dOp oIx (dVar 3) (dC (.int 1))) (dCons (dC (.int 0)) (dCons (dOp oIx (dVar 3) (dC (.int 3))) (dNil))))))) (dNext)) (dRet (dTup (dCons (dOp oIx (dVar 3) (dC (.int 0))) (dCons (dOp oIx (dVar 3) (dC (.int 1))) (dCons (dC .non) (dCons (dOp oIx (dVar 3) (dC (.int 3))) (dNil))))))))))))
/-! _law_live: code 0, ends 1, found 2, k 3, step 4, live 5, register 6, -/
def b__law_live : DS := dSeq (dAsg (dLst (dCons (dL oTuple (dCons (dVar 1) (dNil))) (dNil))) (.nm 2)) (dSeq (dFor (dRng1 (dCons (dL oLen (dCons (dVar 0) (dNil))) (dNil))) (.nm 3) (dSeq (dAsg (dOp oIx (dVar 0) (dOp oSub (dOp oSub (dL oLen (dCons (dVar 0) (dNil))) (dC (.int 1))) (dVar 3))) (.nm 4)) (dSeq (dAsg (dLst (dNil)) (.nm 5)) (dSeq (dFor (dRng1 (dCons (dC (.int 4)) (dNil))) (.nm 6) (dIf (dtOr (dtB (dOp (oIn false) (dVar 6) (dOp oIx (dVar 4) (dC (.int 1))))) (dtAnd (dtB (dOp (oIn false) (dVar 6) (dOp oIx (dVar 2) (dC (.int 0))))) (dtB (dOp oNe (dVar 6) (dOp oIx (dVar 4) (dC (.int 3))))))) (dDrop (dApp (dVar 5) (dVar 6))) (dNext))) (dAsg (dOp oAdd (dLst (dCons (dL oTuple (dCons (dVar 5) (dNil))) (dNil))) (dVar 2)) (.nm 2)))))) (dRet (dVar 2)))
/-! _law_windows: many 0, size 1, found 2, at 3, length 4, -/
def b__law_windows : DS := dSeq (dAsg (dLst (dNil)) (.nm 2)) (dSeq (dFor (dRng1 (dCons (dVar 0) (dNil))) (.nm 3) (dFor (dRng2 (dCons (dC (.int 1)) (dCons (dOp oAdd (dVar 1) (dC (.int 1))) (dNil)))) (.nm 4) (dIf (dtB (dOp oLe (dOp oAdd (dVar 3) (dVar 4)) (dVar 0))) (dDrop (dApp (dVar 2) (dTup (dCons (dVar 3) (dCons (dVar 4) (dNil)))))) (dNext)))) (dRet (dVar 2)))
/-! _law_is_whole_v2: thing 0, -/
def b__law_is_whole_v2 : DS := dRet (dAndV (dIs [.int] (dVar 0)) (dNotV (dIs [.bl] (dVar 0))))
/-! _law_same: told 0, due 1, k 2, number 3, calls _law_is_whole -/
def b__law_same (s__law_is_whole : DSp) : DS := dSeq (dIf (dtOr (dtNot (dtE (dIs [.lst] (dVar 0)))) (dtB (dOp oNe (dL oLen (dCons (dVar 0) (dNil))) (dL oLen (dCons (dVar 1) (dNil)))))) (dRet (dC (.bl false))) (dNext)) (dSeq (dFor (dRng1 (dCons (dL oLen (dCons (dVar 1) (dNil))) (dNil))) (.nm 2) (dSeq (dIf (dtOr (dtNot (dtE (dIs [.tup] (dOp oIx (dVar 0) (dVar 2))))) (dtB (dOp oNe (dOp oIx (dVar 0) (dVar 2)) (dOp oIx (dVar 1) (dVar 2))))) (dRet (dC (.bl false))) (dNext)) (dIf (dtB (dOp oGt (dL oLen (dCons (dLc (dIter (dOp oIx (dVar 0) (dVar 2))) (.nm 3) (dtNot (dtE (dCall s__law_is_whole (dCons (dVar 3) (dNil))))) (dVar 3) [3]) (dNil))) (dC (.int 0)))) (dRet (dC (.bl false))) (dNext)))) (dRet (dC (.bl true))))
/-! _law_bad_v2: book 0, code 1, ends 2, window 3, e 4, -/
def b__law_bad_v2 (c_BadCode : Addr) (c_NoneshorterError : Addr) (c_TooMany : Addr) (sub_BadCode : Value → Option Bool) (kit_NoneshorterError : Value → Option Bool) (kit_TooMany : Value → Option Bool) (s_live_setsX s_window_textX s__law_is_whole : DSp) : DS := dSeq (dTryAs sub_BadCode 4 (dIf (dtB (dOp oEq (dL oLen (dCons (dVar 3) (dNil))) (dC (.int 0)))) (dDropR (dCallX s_live_setsX (dCons (dVar 0) (dCons (dVar 1) (dCons (dVar 2) (dNil)))))) (dDropR (dCallX s_window_textX (dCons (dVar 0) (dCons (dVar 1) (dCons (dVar 2) (dCons (dOp oIx (dVar 3) (dC (.int 0))) (dCons (dOp oIx (dVar 3) (dC (.int 1))) (dNil))))))))) (fun a cls d => dIf (dtAnd (dtE (dIsX kit_NoneshorterError a cls d c_BadCode (dVar 4))) (dtAnd (dtNot (dtE (dIsX kit_TooMany a cls d c_BadCode (dVar 4)))) (dtE (dCall s__law_is_whole (dCons (dXf a cls d c_BadCode "at" (dVar 4)) (dNil)))))) (dRet (dXf a cls d c_BadCode "at" (dVar 4))) (dNext))) (dRet (dUn oNeg (dC (.int 1))))
/-! _law_text_asked: data 0, book 1, code 2, ends 3, window 4, state 5, at 6, behind 7, live 8, given 9, text 10, end 11, k 12, told 13, register 14, calls _law_live window_text _law_after text_outputs -/
def b__law_text_asked (cl : CF) (c_Text : Addr) (kit_Text : Value → Option Bool) (s__law_live s_window_text s__law_after s_text_outputs : DSp) : DS := dSeq (dAsg (dOp oIx (dVar 4) (dC (.int 0))) (.nm 6)) (dSeq (dAsg (dOp oAdd (dVar 6) (dOp oIx (dVar 4) (dC (.int 1)))) (.nm 7)) (dSeq (dAsg (dOp oIx (dCall s__law_live (dCons (dVar 2) (dCons (dVar 3) (dNil)))) (dVar 7)) (.nm 8)) (dSeq (dAsg (dL oList (dCons (dVar 2) (dNil))) (.nm 9)) (dSeq (dAsg (dCall s_window_text (dCons (dVar 1) (dCons (dVar 9) (dCons (dVar 3) (dCons (dVar 6) (dCons (dOp oIx (dVar 4) (dC (.int 1))) (dNil))))))) (.nm 10)) (dSeq (dIf (dtOr (dtNot (dtE (dIsC kit_Text c_Text (dVar 10)))) (dtOr (dtB (dOp oNe (dFld cl "width" (dVar 10)) (dOp oIx (dVar 0) (dC (.int 0))))) (dtB (dOp oNe (dFld cl "inputs" (dVar 10)) (dSl (dTup (dCons (dC (.str "r0")) (dCons (dC (.str "r1")) (dCons (dC (.str "r2")) (dCons (dC (.str "r3")) (dNil)))))) dNoPart (dPart (dOp oIx (dVar 0) (dC (.int 1))))))))) (dRet (dC (.bl false))) (dNext)) (dSeq (dIf (dtB (dOp oGt (dL oLen (dCons (dFld cl "needs" (dVar 10)) (dNil))) (dC (.int 0)))) (dRet (dC (.bl false))) (dNext)) (dSeq (dAsg (dVar 5) (.nm 11)) (dSeq (dFor (dRng2 (dCons (dVar 6) (dCons (dVar 7) (dNil)))) (.nm 12) (dAsg (dCall s__law_after (dCons (dVar 0) (dCons (dOp oIx (dVar 2) (dVar 12)) (dCons (dVar 11) (dNil))))) (.nm 11))) (dSeq (dAsg (dCall s_text_outputs (dCons (dVar 10) (dCons (dVar 5) (dNil)))) (.nm 13)) (dRet (dAndV (dIs [.tup] (dVar 13)) (dAndV (dOp oEq (dVar 13) (dL oTuple (dCons (dLc (dIter (dVar 8)) (.nm 14) dYes (dTup (dCons (dVar 14) (dCons (dOp oIx (dVar 11) (dVar 14)) (dNil)))) [14]) (dNil)))) (dOp oEq (dVar 9) (dVar 2))))))))))))))
/-! _law_places_asked: numbers 0, cursor 1, many 2, size 3, rare 4, told 5, window 6, calls _law_take _law_same _law_windows -/
def b__law_places_asked (s__law_take s__law_same s__law_windows : DSp) : DS := dSeq (dAsg (dCall s__law_take (dCons (dVar 0) (dCons (dVar 1) (dCons (dC (.int 15)) (dNil))))) (.nm 2)) (dSeq (dAsg (dCall s__law_take (dCons (dVar 0) (dCons (dVar 1) (dCons (dC (.int 5)) (dNil))))) (.nm 3)) (dSeq (dAsg (dCall s__law_take (dCons (dVar 0) (dCons (dVar 1) (dCons (dC (.int 16)) (dNil))))) (.nm 4)) (dSeq (dIf (dtB (dOp oLt (dVar 4) (dC (.int 2)))) (dAsg (dCall s__law_take (dCons (dVar 0) (dCons (dVar 1) (dCons (dC (.int 201)) (dNil))))) (.nm 2)) (dNext)) (dSeq (dIf (dtB (dOp (oIn false) (dVar 4) (dLst (dCons (dC (.int 2)) (dCons (dC (.int 3)) (dNil)))))) (dAsg (dCall s__law_take (dCons (dVar 0) (dCons (dVar 1) (dCons (dC (.int 201)) (dNil))))) (.nm 3)) (dNext)) (dSeq (dAsg (dLst (dNil)) (.nm 5)) (dSeq (DG.dForW (dCons (dVar 2) (dCons (dVar 3) (dNil))) 5 6) (dRet (dCall s__law_same (dCons (dVar 5) (dCons (dCall s__law_windows (dCons (dVar 2) (dCons (dVar 3) (dNil)))) (dNil)))))))))))
/-! law_v5: script 0, numbers 1, cursor 2, data 3, book 4, steps 5, many 6, code 7, k 8, ends 9, register 10, state 11, at 12, window 13, due 14, bad 15, handed 16, told 17, calls _law_stream _law_book _law_steps _law_take _law_places_asked _law_spoilt _law_bad live_sets _law_same _law_live _law_text_asked -/
def b_law_v5 (c_Book : Addr) (s_Book : DSp) (s__law_stream s__law_book s__law_steps s__law_take s__law_places_asked s__law_spoilt s__law_bad s_live_sets s__law_same s__law_live s__law_text_asked : DSp) : DS := dSeq (dAsg (dCall s__law_stream (dCons (dVar 0) (dCons (dC (.int 120)) (dNil)))) (.nm 1)) (dSeq (dAsg (dLst (dCons (dC (.int 0)) (dNil))) (.nm 2)) (dSeq (dAsg (dCall s__law_book (dCons (dVar 1) (dCons (dVar 2) (dNil)))) (.nm 3)) (dSeq (dAsg (dMake c_Book s_Book (dCons (dOp oIx (dVar 3) (dC (.int 0))) (dCons (dOp oIx (dVar 3) (dC (.int 1))) (dCons (dL oList (dCons (dOp oIx (dVar 3) (dC (.int 2))) (dNil))) (dCons (dL oList (dCons (dOp oIx (dVar 3) (dC (.int 3))) (dNil))) (dNil)))))) (.nm 4)) (dSeq (dAsg (dCall s__law_steps (dCons (dVar 3) (dCons (dOp oIx (dVar 3) (dC (.int 1))) (dNil)))) (.nm 5)) (dSeq (dAsg (dCall s__law_take (dCons (dVar 1) (dCons (dVar 2) (dCons (dC (.int 13)) (dNil))))) (.nm 6)) (dSeq (dIf (dtB (dOp oEq (dCall s__law_take (dCons (dVar 1) (dCons (dVar 2) (dCons (dC (.int 16)) (dNil))))) (dC (.int 0)))) (dAsg (dOp oAdd (dC (.int 190)) (dCall s__law_take (dCons (dVar 1) (dCons (dVar 2) (dCons (dC (.int 14)) (dNil)))))) (.nm 6)) (dNext)) (dSeq (dAsg (dLst (dNil)) (.nm 7)) (dSeq (dFor (dRng1 (dCons (dVar 6) (dNil))) (.nm 8) (dDrop (dApp (dVar 7) (dOp oIx (dVar 5) (dOp oMod (dL oInt1 (dCons (dOp oAdd (dOp oMul (dCall s__law_take (dCons (dVar 1) (dCons (dVar 2) (dCons (dC (.int 1009)) (dNil))))) (dC (.int 31))) (dCall s__law_take (dCons (dVar 1) (dCons (dVar 2) (dCons (dC (.int 31)) (dNil)))))) (dNil))) (dL oLen (dCons (dVar 5) (dNil)))))))) (dSeq (dAsg (dL oTuple (dCons (dLc (dRng1 (dCons (dOp oIx (dVar 3) (dC (.int 1))) (dNil))) (.nm 10) (dtB (dOp oGt (dCall s__law_take (dCons (dVar 1) (dCons (dVar 2) (dCons (dC (.int 3)) (dNil))))) (dC (.int 0)))) (dVar 10) [10]) (dNil))) (.nm 9)) (dSeq (dAsg (dL oTuple (dCons (dLc (dRng1 (dCons (dOp oIx (dVar 3) (dC (.int 1))) (dNil))) (.nm 10) dYes (dCall s__law_take (dCons (dVar 1) (dCons (dVar 2) (dCons (dOp oShl (dC (.int 1)) (dOp oIx (dVar 3) (dC (.int 0)))) (dNil))))) [10]) (dNil))) (.nm 11)) (dSeq (dIf (dtNot (dtE (dCall s__law_places_asked (dCons (dVar 1) (dCons (dVar 2) (dNil)))))) (dRet (dC (.bl false))) (dNext)) (dSeq (dAsg (dCall s__law_take (dCons (dVar 1) (dCons (dVar 2) (dCons (dOp oAdd (dL oMin2 (dCons (dL oLen (dCons (dVar 7) (dNil))) (dCons (dC (.int 200)) (dNil)))) (dC (.int 1))) (dNil))))) (.nm 12)) (dSeq (dAsg (dTup (dCons (dVar 12) (dCons (dL oMin2 (dCons (dCall s__law_take (dCons (dVar 1) (dCons (dVar 2) (dCons (dC (.int 61)) (dNil))))) (dCons (dOp oSub (dL oMin2 (dCons (dL oLen (dCons (dVar 7) (dNil))) (dCons (dC (.int 200)) (dNil)))) (dVar 12)) (dNil)))) (dNil)))) (.nm 13)) (dSeq (dIf (dtAnd (dtB (dOp oGt (dVar 6) (dC (.int 60)))) (dtB (dOp oEq (dCall s__law_take (dCons (dVar 1) (dCons (dVar 2) (dCons (dC (.int 2)) (dNil))))) (dC (.int 0))))) (dAsg (dTup (dCons (dVar 12) (dCons (dOp oMod (dL oInt1 (dCons (dOp oIx (dVar 13) (dC (.int 1))) (dNil))) (dC (.int 9))) (dNil)))) (.nm 13)) (dNext)) (dSeq (dAsg (dUn oNeg (dC (.int 1))) (.nm 14)) (dSeq (dIf (dtB (dOp oGt (dL oLen (dCons (dVar 7) (dNil))) (dC (.int 200)))) (dAsg (dC (.int 200)) (.nm 14)) (dNext)) (dSeq (dIf (dtAnd (dtB (dOp oGt (dL oLen (dCons (dVar 7) (dNil))) (dC (.int 0)))) (dtB (dOp oEq (dCall s__law_take (dCons (dVar 1) (dCons (dVar 2) (dCons (dC (.int 4)) (dNil))))) (dC (.int 0))))) (dSeq (dAsg (dOp oMod (dCall s__law_take (dCons (dVar 1) (dCons (dVar 2) (dCons (dC (.int 1009)) (dNil))))) (dL oLen (dCons (dVar 7) (dNil)))) (.nm 15)) (dSeq (dSetIx (dCall s__law_spoilt (dCons (dVar 1) (dCons (dVar 2) (dCons (dVar 3) (dCons (dOp oIx (dVar 7) (dVar 15)) (dNil)))))) (dVar 7) (dVar 15)) (dAsg (dL oMin2 (dCons (dVar 15) (dCons (dC (.int 200)) (dNil)))) (.nm 14)))) (dNext)) (dSeq (dAsg (dL oList (dCons (dVar 7) (dNil))) (.nm 16)) (dSeq (dIf (dtOr (dtB (dOp oNe (dCall s__law_bad (dCons (dVar 4) (dCons (dVar 16) (dCons (dVar 9) (dCons (dTup (dNil)) (dNil)))))) (dVar 14))) (dtOr (dtB (dOp oNe (dCall s__law_bad (dCons (dVar 4) (dCons (dVar 16) (dCons (dVar 9) (dCons (dVar 13) (dNil)))))) (dVar 14))) (dtB (dOp oNe (dVar 16) (dVar 7))))) (dRet (dC (.bl false))) (dNext)) (dSeq (dIf (dtB (dOp oGe (dVar 14) (dC (.int 0)))) (dRet (dC (.bl true))) (dNext)) (dSeq (dAsg (dCall s_live_sets (dCons (dVar 4) (dCons (dL oList (dCons (dVar 7) (dNil))) (dCons (dVar 9) (dNil))))) (.nm 17)) (dSeq (dIf (dtNot (dtE (dCall s__law_same (dCons (dVar 17) (dCons (dCall s__law_live (dCons (dVar 7) (dCons (dVar 9) (dNil)))) (dNil)))))) (dRet (dC (.bl false))) (dNext)) (dSeq (dDrop (dApp (dVar 17) (dTup (dNil)))) (dSeq (dIf (dtNot (dtE (dCall s__law_same (dCons (dCall s_live_sets (dCons (dVar 4) (dCons (dL oList (dCons (dVar 7) (dNil))) (dCons (dVar 9) (dNil))))) (dCons (dCall s__law_live (dCons (dVar 7) (dCons (dVar 9) (dNil)))) (dNil)))))) (dRet (dC (.bl false))) (dNext)) (dRet (dCall s__law_text_asked (dCons (dVar 3) (dCons (dVar 4) (dCons (dVar 7) (dCons (dVar 9) (dCons (dVar 13) (dCons (dVar 11) (dNil)))))))))))))))))))))))))))))))))
/-! Text__init___v2: self 0, width 1, inputs 2, needs 3, lets 4, outs 5, name 6, formula 7, register 8, line 9, calls first_bad_line_texts -/
def b_Text__init___v2 (cl : CF) (s_first_bad_line_texts : DSp) : DS := dSeq (dSetFld cl "width" (dVar 1) (dVar 0)) (dSeq (dSetFld cl "inputs" (dL oTuple (dCons (dVar 2) (dNil))) (dVar 0)) (dSeq (dSetFld cl "needs" (dL oTuple (dCons (dVar 3) (dNil))) (dVar 0)) (dSeq (dSetFld cl "lets" (dL oTuple (dCons (dLc (dIter (dVar 4)) (.tp [6, 7]) dYes (dTup (dCons (dVar 6) (dCons (dVar 7) (dNil)))) [6, 7]) (dNil))) (dVar 0)) (dSeq (dSetFld cl "outs" (dL oTuple (dCons (dLc (dIter (dVar 5)) (.tp [8, 7]) dYes (dTup (dCons (dVar 8) (dCons (dVar 7) (dNil)))) [8, 7]) (dNil))) (dVar 0)) (dSeq (dAsg (dCall s_first_bad_line_texts (dCons (dVar 0) (dNil))) (.nm 9)) (dIf (dtB (dOp oGt (dVar 9) (dC (.int 0)))) (dNever) (dNext)))))))
/-! Book__init___v2: self 0, width 1, registers 2, words 3, deeds 4, name 5, price 6, formula 7, line 8, calls first_bad_line_books -/
def b_Book__init___v2 (cl : CF) (s_first_bad_line_books : DSp) : DS := dSeq (dSetFld cl "width" (dVar 1) (dVar 0)) (dSeq (dSetFld cl "registers" (dVar 2) (dVar 0)) (dSeq (dSetFld cl "words" (dL oTuple (dCons (dVar 3) (dNil))) (dVar 0)) (dSeq (dSetFld cl "deeds" (dL oTuple (dCons (dLc (dIter (dVar 4)) (.tp [5, 6, 7]) dYes (dTup (dCons (dVar 5) (dCons (dVar 6) (dCons (dVar 7) (dNil))))) [5, 6, 7]) (dNil))) (dVar 0)) (dSeq (dAsg (dCall s_first_bad_line_books (dCons (dVar 0) (dNil))) (.nm 8)) (dIf (dtB (dOp oGt (dVar 8) (dC (.int 0)))) (dNever) (dNext))))))
/-! Bookcodes_within_v2: self 0, most 1, calls _wall -/
end Bd

set_option Elab.async false
set_option linter.all false
set_option autoImplicit false
set_option maxRecDepth 100000
set_option maxHeartbeats 4000000
namespace K78
open PySem PySem.Spec PyProof.Rows L2 DH Bd GenW
def top (i : Nat) : Stmt := PySem.Challenge.pw_noneshorter_k78_live_sets.main.body.getD i (.Pass ⟨0, 0, 0, 0⟩)
def met (i j : Nat) : Stmt := match top i with
  | .ClassDef (body := b) .. => b.getD j (.Pass ⟨0, 0, 0, 0⟩)
  | s => s
/-- the names of the top -/
structure Gb (K : PySem.W.Frag) (w : World) (mg : Str → Option Value) : Prop where
  ValueError : mg "ValueError" = none
  abs : mg "abs" = none
  all : mg "all" = none
  bool : mg "bool" = none
  enumerate : mg "enumerate" = none
  int : mg "int" = none
  isinstance : mg "isinstance" = none
  len : mg "len" = none
  list : mg "list" = none
  min : mg "min" = none
  range : mg "range" = none
  set : mg "set" = none
  sorted : mg "sorted" = none
  str : mg "str" = none
  tuple : mg "tuple" = none
  zip : mg "zip" = none
  c_ARITY : ∃ a, mg "ARITY" = some (.ref a) ∧ KdAt K w a kv_ARITY
  c_LETTERS : ∃ t, mg "LETTERS" = some (.str "abcdefghijklmnopqrstuvwxyz" t)
  c_DIGITS : ∃ t, mg "DIGITS" = some (.str "0123456789" t)
  c_MOST_DEPTH : ∃ t, mg "MOST_DEPTH" = some (.int 6 t)
  c_MOST_SIZE : ∃ t, mg "MOST_SIZE" = some (.int 15 t)
  c_MOST_LETS : ∃ t, mg "MOST_LETS" = some (.int 60 t)
  c_MOST_NEEDS : ∃ t, mg "MOST_NEEDS" = some (.int 2 t)
  c_MOST_BITS : ∃ t, mg "MOST_BITS" = some (.int 8 t)
  c_MOST_STEPS : ∃ t, mg "MOST_STEPS" = some (.int 200 t)
  c_MOST_LINES : ∃ t, mg "MOST_LINES" = some (.int 60 t)
  c_MOST_STATE_BITS : ∃ t, mg "MOST_STATE_BITS" = some (.int 8 t)
  c_MOST_DEEDS : ∃ t, mg "MOST_DEEDS" = some (.int 6 t)
  c_MOST_PRICE : ∃ t, mg "MOST_PRICE" = some (.int 9 t)
  c_DEED_SIZE : ∃ t, mg "DEED_SIZE" = some (.int 9 t)
section
variable {P : Program} {w : World} {K : PySem.W.Frag} {mg : Str → Option Value} {base : Heap} {k : Nat}
def nm_word_limit : List Str := ["width"]
theorem sc_word_limit : FnScope nm_word_limit ["width"] (defScope (top 10)) := ⟨rfl, rfl, rfl, by decide +kernel, rfl, by decide +kernel, by decide +kernel⟩
theorem d_word_limit (G : Gb K w mg) (T : Top K mg "word_limit" (top 10)) {sp : DSp} (len : ∀ ds M Q E, sp ds M Q E → ds.length = 1)
    (hq : ∀ ds M Q E, sp ds M Q E → b_word_limit { nx := fun _ M' => Q .non M', rt := Q } (startD 1 ds) M) : Cal P w K mg base (k + 1) "word_limit" ["width"] sp := by
  refine cal_mk (N := nm_word_limit) T sc_word_limit (fun _ _ _ _ _ _ us hl => match us, hl with | [_], _ => rfl) (fun f cdv A outer s H E hr => ?_) len hq
  have hu := hu66 hr
  have hu1 := hu_of hr
  exact rss_one (rs_ret (re_shl (re_int) (re_var 0 (pv 0))))
def nm_signed_value : List Str := ["width", "word"]
theorem sc_signed_value : FnScope nm_signed_value ["width", "word"] (defScope (top 11)) := ⟨rfl, rfl, rfl, by decide +kernel, rfl, by decide +kernel, by decide +kernel⟩
theorem d_signed_value {s_word_limit : DSp} (G : Gb K w mg) (C_word_limit : Cal P w K mg base k "word_limit" ["width"] s_word_limit) (T : Top K mg "signed_value" (top 11)) {sp : DSp} (len : ∀ ds M Q E, sp ds M Q E → ds.length = 2)
    (hq : ∀ ds M Q E, sp ds M Q E → b_signed_value s_word_limit { nx := fun _ M' => Q .non M', rt := Q } (startD 2 ds) M) : Cal P w K mg base (k + 1) "signed_value" ["width", "word"] sp := by
  refine cal_mk (N := nm_signed_value) T sc_signed_value (fun _ _ _ _ _ _ us hl => match us, hl with | [_, _], _ => rfl) (fun f cdv A outer s H E hr => ?_) len hq
  have hu := hu66 hr
  have hu1 := hu_of hr
  exact rss_cons (rs_if (rt_cmp (op_ge) (rr_ge) (re_var 1 (pv 1)) (re_fdiv (re_cal C_word_limit hr (ra_cons (re_var 0 (pv 0)) (ra_nil))) (re_int)) (nomark _)) (rss_one (rs_ret (re_sub (re_var 1 (pv 1)) (re_cal C_word_limit hr (ra_cons (re_var 0 (pv 0)) (ra_nil)))))) (rss_nil)) (rss_one (rs_ret (re_var 1 (pv 1))))
def nm_operate_one : List Str := ["name", "width", "word"]
theorem sc_operate_one : FnScope nm_operate_one ["name", "width", "word"] (defScope (top 12)) := ⟨rfl, rfl, rfl, by decide +kernel, rfl, by decide +kernel, by decide +kernel⟩
theorem d_operate_one {s_word_limit : DSp} (G : Gb K w mg) (C_word_limit : Cal P w K mg base k "word_limit" ["width"] s_word_limit) (T : Top K mg "operate_one" (top 12)) {sp : DSp} (len : ∀ ds M Q E, sp ds M Q E → ds.length = 3)
    (hq : ∀ ds M Q E, sp ds M Q E → b_operate_one s_word_limit { nx := fun _ M' => Q .non M', rt := Q } (startD 3 ds) M) : Cal P w K mg base (k + 1) "operate_one" ["name", "width", "word"] sp := by
  refine cal_mk (N := nm_operate_one) T sc_operate_one (fun _ _ _ _ _ _ us hl => match us, hl with | [_, _, _], _ => rfl) (fun f cdv A outer s H E hr => ?_) len hq
  have hu := hu66 hr
  have hu1 := hu_of hr
  exact rss_cons (rs_if (rt_cmp (op_eqA hu) (rr_eq) (re_var 0 (pv 0)) (re_str) (nomark _)) (rss_one (rs_ret (re_sub (re_sub (re_cal C_word_limit hr (ra_cons (re_var 1 (pv 1)) (ra_nil))) (re_int)) (re_var 2 (pv 2))))) (rss_nil)) (rss_one (rs_ret (re_band (re_sub (re_cal C_word_limit hr (ra_cons (re_var 1 (pv 1)) (ra_nil))) (re_var 2 (pv 2))) (re_sub (re_cal C_word_limit hr (ra_cons (re_var 1 (pv 1)) (ra_nil))) (re_int)))))
def nm_operate_bits : List Str := ["name", "one", "other"]
theorem sc_operate_bits : FnScope nm_operate_bits ["name", "one", "other"] (defScope (top 13)) := ⟨rfl, rfl, rfl, by decide +kernel, rfl, by decide +kernel, by decide +kernel⟩
theorem d_operate_bits (G : Gb K w mg) (T : Top K mg "operate_bits" (top 13)) {sp : DSp} (len : ∀ ds M Q E, sp ds M Q E → ds.length = 3)
    (hq : ∀ ds M Q E, sp ds M Q E → b_operate_bits { nx := fun _ M' => Q .non M', rt := Q } (startD 3 ds) M) : Cal P w K mg base (k + 1) "operate_bits" ["name", "one", "other"] sp := by
  refine cal_mk (N := nm_operate_bits) T sc_operate_bits (fun _ _ _ _ _ _ us hl => match us, hl with | [_, _, _], _ => rfl) (fun f cdv A outer s H E hr => ?_) len hq
  have hu := hu66 hr
  have hu1 := hu_of hr
  exact rss_cons (rs_if (rt_cmp (op_eqA hu) (rr_eq) (re_var 0 (pv 0)) (re_str) (nomark _)) (rss_one (rs_ret (re_band (re_var 1 (pv 1)) (re_var 2 (pv 2))))) (rss_nil)) (rss_cons (rs_if (rt_cmp (op_eqA hu) (rr_eq) (re_var 0 (pv 0)) (re_str) (nomark _)) (rss_one (rs_ret (re_bor (re_var 1 (pv 1)) (re_var 2 (pv 2))))) (rss_nil)) (rss_one (rs_ret (re_bxor (re_var 1 (pv 1)) (re_var 2 (pv 2))))))
def nm_operate_sum : List Str := ["name", "width", "one", "other", "mask"]
theorem sc_operate_sum : FnScope nm_operate_sum ["name", "width", "one", "other"] (defScope (top 14)) := ⟨rfl, rfl, rfl, by decide +kernel, rfl, by decide +kernel, by decide +kernel⟩
theorem d_operate_sum {s_word_limit : DSp} (G : Gb K w mg) (C_word_limit : Cal P w K mg base k "word_limit" ["width"] s_word_limit) (T : Top K mg "operate_sum" (top 14)) {sp : DSp} (len : ∀ ds M Q E, sp ds M Q E → ds.length = 4)
    (hq : ∀ ds M Q E, sp ds M Q E → b_operate_sum s_word_limit { nx := fun _ M' => Q .non M', rt := Q } (startD 5 ds) M) : Cal P w K mg base (k + 1) "operate_sum" ["name", "width", "one", "other"] sp := by
  refine cal_mk (N := nm_operate_sum) T sc_operate_sum (fun _ _ _ _ _ _ us hl => match us, hl with | [_, _, _, _], _ => rfl) (fun f cdv A outer s H E hr => ?_) len hq
  have hu := hu66 hr
  have hu1 := hu_of hr
  exact rss_cons (rs_set (i := 4) sc_operate_sum.nd rfl (by first | exact .inl rfl | exact .inr rfl) (re_sub (re_cal C_word_limit hr (ra_cons (re_var 1 (pv 1)) (ra_nil))) (re_int))) (rss_cons (rs_if (rt_cmp (op_eqA hu) (rr_eq) (re_var 0 (pv 0)) (re_str) (nomark _)) (rss_one (rs_ret (re_band (re_add (re_var 2 (pv 2)) (re_var 3 (pv 3))) (re_var 4 (pv 4))))) (rss_nil)) (rss_cons (rs_if (rt_cmp (op_eqA hu) (rr_eq) (re_var 0 (pv 0)) (re_str) (nomark _)) (rss_one (rs_ret (re_band (re_sub (re_var 2 (pv 2)) (re_var 3 (pv 3))) (re_var 4 (pv 4))))) (rss_nil)) (rss_cons (rs_if (rt_cmp (op_eqA hu) (rr_eq) (re_var 0 (pv 0)) (re_str) (nomark _)) (rss_one (rs_ret (re_band (re_mul (re_var 2 (pv 2)) (re_var 3 (pv 3))) (re_var 4 (pv 4))))) (rss_nil)) (rss_cons (rs_if (rt_cmp (op_eqA hu) (rr_eq) (re_var 0 (pv 0)) (re_str) (nomark _)) (rss_one (rs_ret (re_band (re_shl (re_var 2 (pv 2)) (re_var 3 (pv 3))) (re_var 4 (pv 4))))) (rss_nil)) (rss_one (rs_ret (re_shr (re_var 2 (pv 2)) (re_var 3 (pv 3)))))))))
def nm_operate_order : List Str := ["name", "width", "one", "other"]
theorem sc_operate_order : FnScope nm_operate_order ["name", "width", "one", "other"] (defScope (top 15)) := ⟨rfl, rfl, rfl, by decide +kernel, rfl, by decide +kernel, by decide +kernel⟩
theorem d_operate_order {s_signed_value : DSp} (G : Gb K w mg) (C_signed_value : Cal P w K mg base k "signed_value" ["width", "word"] s_signed_value) (T : Top K mg "operate_order" (top 15)) {sp : DSp} (len : ∀ ds M Q E, sp ds M Q E → ds.length = 4)
    (hq : ∀ ds M Q E, sp ds M Q E → b_operate_order s_signed_value { nx := fun _ M' => Q .non M', rt := Q } (startD 4 ds) M) : Cal P w K mg base (k + 1) "operate_order" ["name", "width", "one", "other"] sp := by
  refine cal_mk (N := nm_operate_order) T sc_operate_order (fun _ _ _ _ _ _ us hl => match us, hl with | [_, _, _, _], _ => rfl) (fun f cdv A outer s H E hr => ?_) len hq
  have hu := hu66 hr
  have hu1 := hu_of hr
  exact rss_cons (rs_if (rt_cmp (op_eqA hu) (rr_eq) (re_var 0 (pv 0)) (re_str) (nomark _)) (rss_one (rs_ret (re_callTy rl_int1 call_int1 rfl G.int (by decide +kernel) (ra_cons (re_cmp (op_eqA hu) (rr_eq) (re_var 2 (pv 2)) (re_var 3 (pv 3)) (nomark _)) (ra_nil))))) (rss_nil)) (rss_cons (rs_if (rt_cmp (op_eqA hu) (rr_eq) (re_var 0 (pv 0)) (re_str) (nomark _)) (rss_one (rs_ret (re_callTy rl_int1 call_int1 rfl G.int (by decide +kernel) (ra_cons (re_cmp (op_lt) (rr_lt) (re_var 2 (pv 2)) (re_var 3 (pv 3)) (nomark _)) (ra_nil))))) (rss_nil)) (rss_one (rs_ret (re_callTy rl_int1 call_int1 rfl G.int (by decide +kernel) (ra_cons (re_cmp (op_lt) (rr_lt) (re_cal C_signed_value hr (ra_cons (re_var 1 (pv 1)) (ra_cons (re_var 2 (pv 2)) (ra_nil)))) (re_cal C_signed_value hr (ra_cons (re_var 1 (pv 1)) (ra_cons (re_var 3 (pv 3)) (ra_nil)))) (nomark _)) (ra_nil))))))
def nm_operate : List Str := ["name", "width", "args"]
theorem sc_operate : FnScope nm_operate ["name", "width", "args"] (defScope (top 16)) := ⟨rfl, rfl, rfl, by decide +kernel, rfl, by decide +kernel, by decide +kernel⟩
theorem d_operate {s_operate_one s_operate_bits s_operate_order s_operate_sum : DSp} (G : Gb K w mg) (C_operate_one : Cal P w K mg base k "operate_one" ["name", "width", "word"] s_operate_one) (C_operate_bits : Cal P w K mg base k "operate_bits" ["name", "one", "other"] s_operate_bits) (C_operate_order : Cal P w K mg base k "operate_order" ["name", "width", "one", "other"] s_operate_order) (C_operate_sum : Cal P w K mg base k "operate_sum" ["name", "width", "one", "other"] s_operate_sum) (T : Top K mg "operate" (top 16)) {sp : DSp} (len : ∀ ds M Q E, sp ds M Q E → ds.length = 3)
    (hq : ∀ ds M Q E, sp ds M Q E → b_operate s_operate_one s_operate_bits s_operate_order s_operate_sum { nx := fun _ M' => Q .non M', rt := Q } (startD 3 ds) M) : Cal P w K mg base (k + 1) "operate" ["name", "width", "args"] sp := by
  refine cal_mk (N := nm_operate) T sc_operate (fun _ _ _ _ _ _ us hl => match us, hl with | [_, _, _], _ => rfl) (fun f cdv A outer s H E hr => ?_) len hq
  have hu := hu66 hr
  have hu1 := hu_of hr
  exact rss_cons (rs_if (rt_cmp (op_eqA hu) (rr_eq) (re_var 0 (pv 0)) (re_str) (nomark _)) (rss_cons (rs_if (rt_cmp (op_neA hu) (rr_ne) (re_ix (ix_all hu1) rr_ix (re_var 2 (pv 2)) (re_int) (fun _ _ => rfl)) (re_int) (nomark _)) (rss_one (rs_ret (re_ix (ix_all hu1) rr_ix (re_var 2 (pv 2)) (re_int) (fun _ _ => rfl)))) (rss_nil)) (rss_one (rs_ret (re_ix (ix_all hu1) rr_ix (re_var 2 (pv 2)) (re_int) (fun _ _ => rfl))))) (rss_nil)) (rss_cons (rs_if (rt_cmp (op_eqA hu) (rr_eq) (re_callB rl_len call_lenA rfl G.len (by decide +kernel) (ra_cons (re_var 2 (pv 2)) (ra_nil))) (re_int) (nomark _)) (rss_one (rs_ret (re_cal C_operate_one hr (ra_cons (re_var 0 (pv 0)) (ra_cons (re_var 1 (pv 1)) (ra_cons (re_ix (ix_all hu1) rr_ix (re_var 2 (pv 2)) (re_int) (fun _ _ => rfl)) (ra_nil))))))) (rss_nil)) (rss_cons (rs_if (rt_cmp (op_inA hu1) (rr_in (neg := false)) (re_var 0 (pv 0)) (re_tup (ra_cons (re_str) (ra_cons (re_str) (ra_cons (re_str) (ra_nil))))) rfl) (rss_one (rs_ret (re_cal C_operate_bits hr (ra_cons (re_var 0 (pv 0)) (ra_cons (re_ix (ix_all hu1) rr_ix (re_var 2 (pv 2)) (re_int) (fun _ _ => rfl)) (ra_cons (re_ix (ix_all hu1) rr_ix (re_var 2 (pv 2)) (re_int) (fun _ _ => rfl)) (ra_nil))))))) (rss_nil)) (rss_cons (rs_if (rt_cmp (op_inA hu1) (rr_in (neg := false)) (re_var 0 (pv 0)) (re_tup (ra_cons (re_str) (ra_cons (re_str) (ra_cons (re_str) (ra_nil))))) rfl) (rss_one (rs_ret (re_cal C_operate_order hr (ra_cons (re_var 0 (pv 0)) (ra_cons (re_var 1 (pv 1)) (ra_cons (re_ix (ix_all hu1) rr_ix (re_var 2 (pv 2)) (re_int) (fun _ _ => rfl)) (ra_cons (re_ix (ix_all hu1) rr_ix (re_var 2 (pv 2)) (re_int) (fun _ _ => rfl)) (ra_nil)))))))) (rss_nil)) (rss_one (rs_ret (re_cal C_operate_sum hr (ra_cons (re_var 0 (pv 0)) (ra_cons (re_var 1 (pv 1)) (ra_cons (re_ix (ix_all hu1) rr_ix (re_var 2 (pv 2)) (re_int) (fun _ _ => rfl)) (ra_cons (re_ix (ix_all hu1) rr_ix (re_var 2 (pv 2)) (re_int) (fun _ _ => rfl)) (ra_nil)))))))))))
def nm_is_name : List Str := ["name", "char"]
theorem sc_is_name : FnScope nm_is_name ["name"] (defScope (top 21)) := ⟨rfl, rfl, rfl, by decide +kernel, rfl, by decide +kernel, by decide +kernel⟩
theorem d_is_name (G : Gb K w mg) (T : Top K mg "is_name" (top 21)) {sp : DSp} (len : ∀ ds M Q E, sp ds M Q E → ds.length = 1)
    (hq : ∀ ds M Q E, sp ds M Q E → b_is_name { nx := fun _ M' => Q .non M', rt := Q } (startD 2 ds) M) : Cal P w K mg base (k + 1) "is_name" ["name"] sp := by
  refine cal_mk (N := nm_is_name) T sc_is_name (fun _ _ _ _ _ _ us hl => match us, hl with | [_], _ => rfl) (fun f cdv A outer s H E hr => ?_) len hq
  have hu := hu66 hr
  have hu1 := hu_of hr
  exact rss_cons (rs_if (PW.pt (rw_or (rt_not (rt_chain (op_le) (rr_le) (op_le) (rr_le) (re_int) (re_callB rl_len call_lenA rfl G.len (by decide +kernel) (ra_cons (re_var 0 (pv 0)) (ra_nil))) (re_int))) (rw_or1 (rt_cmp (op_notInA hu1) (rr_in (neg := true)) (re_ix (ix_all hu1) rr_ix (re_var 0 (pv 0)) (re_int) (fun _ _ => rfl)) (re_gstr G.c_LETTERS) rfl)))) (rss_one (rs_ret (re_bl))) (rss_nil)) (rss_cons (rs_for PassesOwn.never rfl (ri_val (re_var 0 (pv 0))) (ptg_name (pg_name (i := 1) sc_is_name.nd rfl (by first | exact .inl rfl | exact .inr rfl))) (rss_one (rs_if (PW.pt (rw_and (rt_cmp (op_notInA hu1) (rr_in (neg := true)) (re_var 1 (pv 1)) (re_gstr G.c_LETTERS) rfl) (rw_and1 (rt_cmp (op_notInA hu1) (rr_in (neg := true)) (re_var 1 (pv 1)) (re_gstr G.c_DIGITS) rfl)))) (rss_one (rs_ret (re_bl))) (rss_nil)))) (rss_one (rs_ret (re_bl))))
def nm_is_value_name : List Str := ["name"]
theorem sc_is_value_name : FnScope nm_is_value_name ["name"] (defScope (top 22)) := ⟨rfl, rfl, rfl, by decide +kernel, rfl, by decide +kernel, by decide +kernel⟩
theorem d_is_value_name {s_is_name : DSp} (G : Gb K w mg) (C_is_name : Cal P w K mg base k "is_name" ["name"] s_is_name) (T : Top K mg "is_value_name" (top 22)) {sp : DSp} (len : ∀ ds M Q E, sp ds M Q E → ds.length = 1)
    (hq : ∀ ds M Q E, sp ds M Q E → b_is_value_name s_is_name { nx := fun _ M' => Q .non M', rt := Q } (startD 1 ds) M) : Cal P w K mg base (k + 1) "is_value_name" ["name"] sp := by
  refine cal_mk (N := nm_is_value_name) T sc_is_value_name (fun _ _ _ _ _ _ us hl => match us, hl with | [_], _ => rfl) (fun f cdv A outer s H E hr => ?_) len hq
  have hu := hu66 hr
  have hu1 := hu_of hr
  exact rss_one (rs_ret (re_and (re_cal C_is_name hr (ra_cons (re_var 0 (pv 0)) (ra_nil))) (re_one (re_cmp (op_notInA hu1) (rr_in (neg := true)) (re_var 0 (pv 0)) (re_gkd G.c_ARITY) rfl))))
def nm_formula_size : List Str := ["formula", "total", "part"]
theorem sc_formula_size : FnScope nm_formula_size ["formula"] (defScope (top 23)) := ⟨rfl, rfl, rfl, by decide +kernel, rfl, by decide +kernel, by decide +kernel⟩
theorem d_formula_size {s_formula_size : DSp} (G : Gb K w mg) (C_formula_size : Cal P w K mg base k "formula_size" ["formula"] s_formula_size) (T : Top K mg "formula_size" (top 23)) {sp : DSp} (len : ∀ ds M Q E, sp ds M Q E → ds.length = 1)
    (hq : ∀ ds M Q E, sp ds M Q E → b_formula_size s_formula_size { nx := fun _ M' => Q .non M', rt := Q } (startD 3 ds) M) : Cal P w K mg base (k + 1) "formula_size" ["formula"] sp := by
  refine cal_mk (N := nm_formula_size) T sc_formula_size (fun _ _ _ _ _ _ us hl => match us, hl with | [_], _ => rfl) (fun f cdv A outer s H E hr => ?_) len hq
  have hu := hu66 hr
  have hu1 := hu_of hr
  exact rss_cons (rs_if (rt_val (re_isi2 .int .str (re_var 0 (pv 0)) (pe_ty .int G.int) (pe_ty .str G.str) rfl G.isinstance)) (rss_one (rs_ret (re_int))) (rss_nil)) (rss_cons (rs_set (i := 1) sc_formula_size.nd rfl (by first | exact .inl rfl | exact .inr rfl) (re_int)) (rss_cons (rs_for PassesOwn.never rfl (ri_val (re_slice (re_var 0 (pv 0)) (ro_some (re_int)) ro_none)) (ptg_name (pg_name (i := 2) sc_formula_size.nd rfl (by first | exact .inl rfl | exact .inr rfl))) (rss_one (rs_set (i := 1) sc_formula_size.nd rfl (by first | exact .inl rfl | exact .inr rfl) (re_add (re_var 1 (pv 1)) (re_cal C_formula_size hr (ra_cons (re_var 2 (pv 2)) (ra_nil))))))) (rss_one (rs_ret (re_var 1 (pv 1))))))
def nm_is_shaped : List Str := ["formula", "width", "names", "depth", "part"]
theorem sc_is_shaped : FnScope nm_is_shaped ["formula", "width", "names", "depth"] (defScope (top 24)) := ⟨rfl, rfl, rfl, by decide +kernel, rfl, by decide +kernel, by decide +kernel⟩
theorem d_is_shaped {s_word_limit s_is_shaped : DSp} (G : Gb K w mg) (C_word_limit : Cal P w K mg base k "word_limit" ["width"] s_word_limit) (C_is_shaped : Cal P w K mg base k "is_shaped" ["formula", "width", "names", "depth"] s_is_shaped) (T : Top K mg "is_shaped" (top 24)) {sp : DSp} (len : ∀ ds M Q E, sp ds M Q E → ds.length = 4)
    (hq : ∀ ds M Q E, sp ds M Q E → b_is_shaped s_word_limit s_is_shaped { nx := fun _ M' => Q .non M', rt := Q } (startD 5 ds) M) : Cal P w K mg base (k + 1) "is_shaped" ["formula", "width", "names", "depth"] sp := by
  refine cal_mk (N := nm_is_shaped) T sc_is_shaped (fun _ _ _ _ _ _ us hl => match us, hl with | [_, _, _, _], _ => rfl) (fun f cdv A outer s H E hr => ?_) len hq
  have hu := hu66 hr
  have hu1 := hu_of hr
  exact rss_cons (rs_if (rt_val (re_isi .int (re_var 0 (pv 0)) (pe_ty .int G.int) rfl G.isinstance)) (rss_one (rs_ret (re_chain (op_le) (rr_le) (op_lt) (rr_lt) (re_int) (re_var 0 (pv 0)) (re_cal C_word_limit hr (ra_cons (re_var 1 (pv 1)) (ra_nil)))))) (rss_nil)) (rss_cons (rs_if (rt_val (re_isi .str (re_var 0 (pv 0)) (pe_ty .str G.str) rfl G.isinstance)) (rss_one (rs_ret (re_cmp (op_inA hu1) (rr_in (neg := false)) (re_var 0 (pv 0)) (re_var 2 (pv 2)) rfl))) (rss_nil)) (rss_cons (rs_if (PW.pt (rw_or (rt_cmp (op_eqA hu) (rr_eq) (re_var 3 (pv 3)) (re_int) (nomark _)) (rw_or (rt_cmp (op_eqA hu) (rr_eq) (re_callB rl_len call_lenA rfl G.len (by decide +kernel) (ra_cons (re_var 0 (pv 0)) (ra_nil))) (re_int) (nomark _)) (rw_or1 (rt_not (rt_val (re_isi .str (re_ix (ix_all hu1) rr_ix (re_var 0 (pv 0)) (re_int) (fun _ _ => rfl)) (pe_ty .str G.str) rfl G.isinstance))))))) (rss_one (rs_ret (re_bl))) (rss_nil)) (rss_cons (rs_if (PW.pt (rw_or (rt_cmp (op_notInA hu1) (rr_in (neg := true)) (re_ix (ix_all hu1) rr_ix (re_var 0 (pv 0)) (re_int) (fun _ _ => rfl)) (re_gkd G.c_ARITY) rfl) (rw_or1 (rt_cmp (op_neA hu) (rr_ne) (re_callB rl_len call_lenA rfl G.len (by decide +kernel) (ra_cons (re_var 0 (pv 0)) (ra_nil))) (re_add (re_int) (re_ix (ix_all hu1) rr_ix (re_gkd G.c_ARITY) (re_ix (ix_all hu1) rr_ix (re_var 0 (pv 0)) (re_int) (fun _ _ => rfl)) (fun _ _ => rfl))) (nomark _))))) (rss_one (rs_ret (re_bl))) (rss_nil)) (rss_cons (rs_for PassesOwn.never rfl (ri_val (re_slice (re_var 0 (pv 0)) (ro_some (re_int)) ro_none)) (ptg_name (pg_name (i := 4) sc_is_shaped.nd rfl (by first | exact .inl rfl | exact .inr rfl))) (rss_one (rs_if (rt_not (rt_val (re_cal C_is_shaped hr (ra_cons (re_var 4 (pv 4)) (ra_cons (re_var 1 (pv 1)) (ra_cons (re_var 2 (pv 2)) (ra_cons (re_sub (re_var 3 (pv 3)) (re_int)) (ra_nil)))))))) (rss_one (rs_ret (re_bl))) (rss_nil)))) (rss_one (rs_ret (re_bl)))))))
def nm_is_formula : List Str := ["formula", "width", "names", "most"]
theorem sc_is_formula : FnScope nm_is_formula ["formula", "width", "names", "most"] (defScope (top 25)) := ⟨rfl, rfl, rfl, by decide +kernel, rfl, by decide +kernel, by decide +kernel⟩
theorem d_is_formula {s_is_shaped s_formula_size : DSp} (G : Gb K w mg) (C_is_shaped : Cal P w K mg base k "is_shaped" ["formula", "width", "names", "depth"] s_is_shaped) (C_formula_size : Cal P w K mg base k "formula_size" ["formula"] s_formula_size) (T : Top K mg "is_formula" (top 25)) {sp : DSp} (len : ∀ ds M Q E, sp ds M Q E → ds.length = 4)
    (hq : ∀ ds M Q E, sp ds M Q E → b_is_formula s_is_shaped s_formula_size { nx := fun _ M' => Q .non M', rt := Q } (startD 4 ds) M) : Cal P w K mg base (k + 1) "is_formula" ["formula", "width", "names", "most"] sp := by
  refine cal_mk (N := nm_is_formula) T sc_is_formula (fun _ _ _ _ _ _ us hl => match us, hl with | [_, _, _, _], _ => rfl) (fun f cdv A outer s H E hr => ?_) len hq
  have hu := hu66 hr
  have hu1 := hu_of hr
  exact rss_one (rs_ret (re_and (re_cal C_is_shaped hr (ra_cons (re_var 0 (pv 0)) (ra_cons (re_var 1 (pv 1)) (ra_cons (re_var 2 (pv 2)) (ra_cons (re_gint G.c_MOST_DEPTH) (ra_nil)))))) (re_one (re_cmp (op_le) (rr_le) (re_cal C_formula_size hr (ra_cons (re_var 0 (pv 0)) (ra_nil))) (re_var 3 (pv 3)) (nomark _)))))
def nm_formula_names : List Str := ["formula", "found", "part", "name"]
theorem sc_formula_names : FnScope nm_formula_names ["formula"] (defScope (top 26)) := ⟨rfl, rfl, rfl, by decide +kernel, rfl, by decide +kernel, by decide +kernel⟩
theorem d_formula_names {s_formula_names : DSp} (G : Gb K w mg) (C_formula_names : Cal P w K mg base k "formula_names" ["formula"] s_formula_names) (T : Top K mg "formula_names" (top 26)) {sp : DSp} (len : ∀ ds M Q E, sp ds M Q E → ds.length = 1)
    (hq : ∀ ds M Q E, sp ds M Q E → b_formula_names s_formula_names { nx := fun _ M' => Q .non M', rt := Q } (startD 4 ds) M) : Cal P w K mg base (k + 1) "formula_names" ["formula"] sp := by
  refine cal_mk (N := nm_formula_names) T sc_formula_names (fun _ _ _ _ _ _ us hl => match us, hl with | [_], _ => rfl) (fun f cdv A outer s H E hr => ?_) len hq
  have hu := hu66 hr
  have hu1 := hu_of hr
  exact rss_cons (rs_if (rt_val (re_isi .int (re_var 0 (pv 0)) (pe_ty .int G.int) rfl G.isinstance)) (rss_one (rs_ret (re_lst (ra_nil)))) (rss_nil)) (rss_cons (rs_if (rt_val (re_isi .str (re_var 0 (pv 0)) (pe_ty .str G.str) rfl G.isinstance)) (rss_one (rs_ret (re_lst (ra_cons (re_var 0 (pv 0)) (ra_nil))))) (rss_nil)) (rss_cons (rs_set (i := 1) sc_formula_names.nd rfl (by first | exact .inl rfl | exact .inr rfl) (re_lst (ra_nil))) (rss_cons (rs_for PassesOwn.never rfl (ri_val (re_slice (re_var 0 (pv 0)) (ro_some (re_int)) ro_none)) (ptg_name (pg_name (i := 2) sc_formula_names.nd rfl (by first | exact .inl rfl | exact .inr rfl))) (rss_one (rs_for PassesOwn.never rfl (ri_val (re_cal C_formula_names hr (ra_cons (re_var 2 (pv 2)) (ra_nil)))) (ptg_name (pg_name (i := 3) sc_formula_names.nd rfl (by first | exact .inl rfl | exact .inr rfl))) (rss_one (rs_if (rt_cmp (op_notInA hu1) (rr_in (neg := true)) (re_var 3 (pv 3)) (re_var 1 (pv 1)) rfl) (rss_one (rs_expr (re_append (re_var 1 (pv 1)) (re_var 3 (pv 3))))) (rss_nil)))))) (rss_one (rs_ret (re_var 1 (pv 1)))))))
def nm_formula_value : List Str := ["formula", "width", "env", "args", "part"]
theorem sc_formula_value : FnScope nm_formula_value ["formula", "width", "env"] (defScope (top 27)) := ⟨rfl, rfl, rfl, by decide +kernel, rfl, by decide +kernel, by decide +kernel⟩
theorem d_formula_value {s_formula_value s_operate : DSp} (G : Gb K w mg) (C_formula_value : Cal P w K mg base k "formula_value" ["formula", "width", "env"] s_formula_value) (C_operate : Cal P w K mg base k "operate" ["name", "width", "args"] s_operate) (T : Top K mg "formula_value" (top 27)) {sp : DSp} (len : ∀ ds M Q E, sp ds M Q E → ds.length = 3)
    (hq : ∀ ds M Q E, sp ds M Q E → b_formula_value s_formula_value s_operate { nx := fun _ M' => Q .non M', rt := Q } (startD 5 ds) M) : Cal P w K mg base (k + 1) "formula_value" ["formula", "width", "env"] sp := by
  refine cal_mk (N := nm_formula_value) T sc_formula_value (fun _ _ _ _ _ _ us hl => match us, hl with | [_, _, _], _ => rfl) (fun f cdv A outer s H E hr => ?_) len hq
  have hu := hu66 hr
  have hu1 := hu_of hr
  exact rss_cons (rs_if (rt_val (re_isi .int (re_var 0 (pv 0)) (pe_ty .int G.int) rfl G.isinstance)) (rss_one (rs_ret (re_var 0 (pv 0)))) (rss_nil)) (rss_cons (rs_if (rt_val (re_isi .str (re_var 0 (pv 0)) (pe_ty .str G.str) rfl G.isinstance)) (rss_one (rs_ret (re_ix (ix_all hu1) rr_ix (re_var 2 (pv 2)) (re_var 0 (pv 0)) (fun _ _ => rfl)))) (rss_nil)) (rss_cons (rs_set (i := 3) sc_formula_value.nd rfl (by first | exact .inl rfl | exact .inr rfl) (re_lst (ra_nil))) (rss_cons (rs_for PassesOwn.never rfl (ri_val (re_slice (re_var 0 (pv 0)) (ro_some (re_int)) ro_none)) (ptg_name (pg_name (i := 4) sc_formula_value.nd rfl (by first | exact .inl rfl | exact .inr rfl))) (rss_one (rs_expr (re_append (re_var 3 (pv 3)) (re_cal C_formula_value hr (ra_cons (re_var 4 (pv 4)) (ra_cons (re_var 1 (pv 1)) (ra_cons (re_var 2 (pv 2)) (ra_nil))))))))) (rss_one (rs_ret (re_cal C_operate hr (ra_cons (re_ix (ix_all hu1) rr_ix (re_var 0 (pv 0)) (re_int) (fun _ _ => rfl)) (ra_cons (re_var 1 (pv 1)) (ra_cons (re_var 3 (pv 3)) (ra_nil))))))))))
def nm_put_in : List Str := ["formula", "env", "parts", "part"]
theorem sc_put_in : FnScope nm_put_in ["formula", "env"] (defScope (top 28)) := ⟨rfl, rfl, rfl, by decide +kernel, rfl, by decide +kernel, by decide +kernel⟩
theorem d_put_in {s_put_in : DSp} (G : Gb K w mg) (C_put_in : Cal P w K mg base k "put_in" ["formula", "env"] s_put_in) (T : Top K mg "put_in" (top 28)) {sp : DSp} (len : ∀ ds M Q E, sp ds M Q E → ds.length = 2)
    (hq : ∀ ds M Q E, sp ds M Q E → b_put_in s_put_in { nx := fun _ M' => Q .non M', rt := Q } (startD 4 ds) M) : Cal P w K mg base (k + 1) "put_in" ["formula", "env"] sp := by
  refine cal_mk (N := nm_put_in) T sc_put_in (fun _ _ _ _ _ _ us hl => match us, hl with | [_, _], _ => rfl) (fun f cdv A outer s H E hr => ?_) len hq
  have hu := hu66 hr
  have hu1 := hu_of hr
  exact rss_cons (rs_if (rt_val (re_isi .int (re_var 0 (pv 0)) (pe_ty .int G.int) rfl G.isinstance)) (rss_one (rs_ret (re_var 0 (pv 0)))) (rss_nil)) (rss_cons (rs_if (rt_val (re_isi .str (re_var 0 (pv 0)) (pe_ty .str G.str) rfl G.isinstance)) (rss_one (rs_ret (re_get2 hu1 (re_var 1 (pv 1)) (re_var 0 (pv 0)) (re_var 0 (pv 0)) ⟨rfl, rfl, rfl, rfl⟩))) (rss_nil)) (rss_cons (rs_set (i := 2) sc_put_in.nd rfl (by first | exact .inl rfl | exact .inr rfl) (re_lst (ra_cons (re_ix (ix_all hu1) rr_ix (re_var 0 (pv 0)) (re_int) (fun _ _ => rfl)) (ra_nil)))) (rss_cons (rs_for PassesOwn.never rfl (ri_val (re_slice (re_var 0 (pv 0)) (ro_some (re_int)) ro_none)) (ptg_name (pg_name (i := 3) sc_put_in.nd rfl (by first | exact .inl rfl | exact .inr rfl))) (rss_one (rs_expr (re_append (re_var 2 (pv 2)) (re_cal C_put_in hr (ra_cons (re_var 3 (pv 3)) (ra_cons (re_var 1 (pv 1)) (ra_nil)))))))) (rss_one (rs_ret (re_callTy rl_tuple call_tuple_of rfl G.tuple (by decide +kernel) (ra_cons (re_var 2 (pv 2)) (ra_nil))))))))
def nm_bad_input : List Str := ["text", "at", "name"]
theorem sc_bad_input : FnScope nm_bad_input ["text", "at"] (defScope (top 35)) := ⟨rfl, rfl, rfl, by decide +kernel, rfl, by decide +kernel, by decide +kernel⟩
theorem d_bad_input {cl : CF} {s_is_value_name : DSp} (G : Gb K w mg) (hcl : CfOk K cl) (C_is_value_name : Cal P w K mg base k "is_value_name" ["name"] s_is_value_name) (T : Top K mg "bad_input" (top 35)) {sp : DSp} (len : ∀ ds M Q E, sp ds M Q E → ds.length = 2)
    (hq : ∀ ds M Q E, sp ds M Q E → b_bad_input cl s_is_value_name { nx := fun _ M' => Q .non M', rt := Q } (startD 3 ds) M) : Cal P w K mg base (k + 1) "bad_input" ["text", "at"] sp := by
  refine cal_mk (N := nm_bad_input) T sc_bad_input (fun _ _ _ _ _ _ us hl => match us, hl with | [_, _], _ => rfl) (fun f cdv A outer s H E hr => ?_) len hq
  have hu := hu66 hr
  have hu1 := hu_of hr
  exact rss_cons (rs_set (i := 2) sc_bad_input.nd rfl (by first | exact .inl rfl | exact .inr rfl) (re_ix (ix_all hu1) rr_ix (re_fld hcl (re_var 0 (pv 0))) (re_var 1 (pv 1)) (fun _ _ => rfl))) (rss_cons (rs_if (PW.pt (rw_or (rt_not (rt_val (re_cal C_is_value_name hr (ra_cons (re_var 2 (pv 2)) (ra_nil))))) (rw_or1 (rt_cmp (op_inA hu1) (rr_in (neg := false)) (re_var 2 (pv 2)) (re_slice (re_fld hcl (re_var 0 (pv 0))) ro_none (ro_some (re_var 1 (pv 1)))) rfl)))) (rss_one (rs_ret (re_bl))) (rss_nil)) (rss_one (rs_ret (re_or (re_cmp (op_ge) (rr_ge) (re_var 1 (pv 1)) (re_int) (nomark _)) (re_one (re_cmp (op_gt) (rr_gt) (re_mul (re_fld hcl (re_var 0 (pv 0))) (re_add (re_var 1 (pv 1)) (re_int))) (re_gint G.c_MOST_BITS) (nomark _)))))))
def nm_bad_let : List Str := ["text", "at", "name", "formula", "known", "row"]
theorem sc_bad_let : FnScope nm_bad_let ["text", "at"] (defScope (top 36)) := ⟨rfl, rfl, rfl, by decide +kernel, rfl, by decide +kernel, by decide +kernel⟩
theorem d_bad_let {cl : CF} {s_is_value_name s_is_formula : DSp} (G : Gb K w mg) (hcl : CfOk K cl) (C_is_value_name : Cal P w K mg base k "is_value_name" ["name"] s_is_value_name) (C_is_formula : Cal P w K mg base k "is_formula" ["formula", "width", "names", "most"] s_is_formula) (T : Top K mg "bad_let" (top 36)) {sp : DSp} (len : ∀ ds M Q E, sp ds M Q E → ds.length = 2)
    (hq : ∀ ds M Q E, sp ds M Q E → b_bad_let cl s_is_value_name s_is_formula { nx := fun _ M' => Q .non M', rt := Q } (startD 6 ds) M) : Cal P w K mg base (k + 1) "bad_let" ["text", "at"] sp := by
  refine cal_mk (N := nm_bad_let) T sc_bad_let (fun _ _ _ _ _ _ us hl => match us, hl with | [_, _], _ => rfl) (fun f cdv A outer s H E hr => ?_) len hq
  have hu := hu66 hr
  have hu1 := hu_of hr
  exact rss_cons (rs_asg (re_ix (ix_all hu1) rr_ix (re_fld hcl (re_var 0 (pv 0))) (re_var 1 (pv 1)) (fun _ _ => rfl)) (ptg_two rfl (pg_name (i := 2) sc_bad_let.nd rfl (by first | exact .inl rfl | exact .inr rfl)) (pg_name (i := 3) sc_bad_let.nd rfl (by first | exact .inl rfl | exact .inr rfl)))) (rss_cons (rs_set (i := 4) sc_bad_let.nd rfl (by first | exact .inl rfl | exact .inr rfl) (re_add (re_callTy rl_list call_list_of rfl G.list (by decide +kernel) (ra_cons (re_fld hcl (re_var 0 (pv 0))) (ra_nil))) (re_lc (own := [("row", 5)]) rfl sc_bad_let.nd (ri_val (re_slice (re_fld hcl (re_var 0 (pv 0))) ro_none (ro_some (re_var 1 (pv 1))))) (blkOk_by (own := [("row", 5)]) (N := nm_bad_let) (sc := defScope (top 36)) (by decide +kernel)) (by decide) (fun _ _ _ _ _ => (ptg_name (pg_name (i := 5) sc_bad_let.nd rfl (by first | exact .inl rfl | exact .inr rfl)))) (fun _ _ _ _ _ => rts_nil) (fun _ _ _ _ _ => re_ix (ix_all hu1) rr_ix (re_var 5 (pv 5)) (re_int) (fun _ _ => rfl))))) (rss_cons (rs_if (PW.pt (rw_or (rt_not (rt_val (re_cal C_is_value_name hr (ra_cons (re_var 2 (pv 2)) (ra_nil))))) (rw_or (rt_cmp (op_inA hu1) (rr_in (neg := false)) (re_var 2 (pv 2)) (re_var 4 (pv 4)) rfl) (rw_or1 (rt_cmp (op_ge) (rr_ge) (re_var 1 (pv 1)) (re_gint G.c_MOST_LETS) (nomark _)))))) (rss_one (rs_ret (re_bl))) (rss_nil)) (rss_one (rs_ret (re_not (re_cal C_is_formula hr (ra_cons (re_var 3 (pv 3)) (ra_cons (re_fld hcl (re_var 0 (pv 0))) (ra_cons (re_var 4 (pv 4)) (ra_cons (re_gint G.c_MOST_SIZE) (ra_nil)))))))))))
def nm_bad_out : List Str := ["text", "at", "register", "formula", "known", "row"]
theorem sc_bad_out : FnScope nm_bad_out ["text", "at"] (defScope (top 37)) := ⟨rfl, rfl, rfl, by decide +kernel, rfl, by decide +kernel, by decide +kernel⟩
theorem d_bad_out {cl : CF} {s_is_formula : DSp} (G : Gb K w mg) (hcl : CfOk K cl) (C_is_formula : Cal P w K mg base k "is_formula" ["formula", "width", "names", "most"] s_is_formula) (T : Top K mg "bad_out" (top 37)) {sp : DSp} (len : ∀ ds M Q E, sp ds M Q E → ds.length = 2)
    (hq : ∀ ds M Q E, sp ds M Q E → b_bad_out cl s_is_formula { nx := fun _ M' => Q .non M', rt := Q } (startD 6 ds) M) : Cal P w K mg base (k + 1) "bad_out" ["text", "at"] sp := by
  refine cal_mk (N := nm_bad_out) T sc_bad_out (fun _ _ _ _ _ _ us hl => match us, hl with | [_, _], _ => rfl) (fun f cdv A outer s H E hr => ?_) len hq
  have hu := hu66 hr
  have hu1 := hu_of hr
  exact rss_cons (rs_asg (re_ix (ix_all hu1) rr_ix (re_fld hcl (re_var 0 (pv 0))) (re_var 1 (pv 1)) (fun _ _ => rfl)) (ptg_two rfl (pg_name (i := 2) sc_bad_out.nd rfl (by first | exact .inl rfl | exact .inr rfl)) (pg_name (i := 3) sc_bad_out.nd rfl (by first | exact .inl rfl | exact .inr rfl)))) (rss_cons (rs_set (i := 4) sc_bad_out.nd rfl (by first | exact .inl rfl | exact .inr rfl) (re_add (re_callTy rl_list call_list_of rfl G.list (by decide +kernel) (ra_cons (re_fld hcl (re_var 0 (pv 0))) (ra_nil))) (re_lc (own := [("row", 5)]) rfl sc_bad_out.nd (ri_val (re_fld hcl (re_var 0 (pv 0)))) (blkOk_by (own := [("row", 5)]) (N := nm_bad_out) (sc := defScope (top 37)) (by decide +kernel)) (by decide) (fun _ _ _ _ _ => (ptg_name (pg_name (i := 5) sc_bad_out.nd rfl (by first | exact .inl rfl | exact .inr rfl)))) (fun _ _ _ _ _ => rts_nil) (fun _ _ _ _ _ => re_ix (ix_all hu1) rr_ix (re_var 5 (pv 5)) (re_int) (fun _ _ => rfl))))) (rss_cons (rs_if (PW.pt (rw_or (rt_not (rt_chain (op_le) (rr_le) (op_le) (rr_le) (re_int) (re_var 2 (pv 2)) (re_int))) (rw_or1 (PW.pt (rw_and (rt_cmp (op_gt) (rr_gt) (re_var 1 (pv 1)) (re_int) (nomark _)) (rw_and1 (rt_cmp (op_le) (rr_le) (re_var 2 (pv 2)) (re_ix (ix_all hu1) rr_ix (re_ix (ix_all hu1) rr_ix (re_fld hcl (re_var 0 (pv 0))) (re_sub (re_var 1 (pv 1)) (re_int)) (fun _ _ => rfl)) (re_int) (fun _ _ => rfl)) (nomark _)))))))) (rss_one (rs_ret (re_bl))) (rss_nil)) (rss_one (rs_ret (re_not (re_cal C_is_formula hr (ra_cons (re_var 3 (pv 3)) (ra_cons (re_fld hcl (re_var 0 (pv 0))) (ra_cons (re_var 4 (pv 4)) (ra_cons (re_gint G.c_MOST_SIZE) (ra_nil)))))))))))
def nm_first_bad_line_texts : List Str := ["text", "line", "at"]
theorem sc_first_bad_line_texts : FnScope nm_first_bad_line_texts ["text"] (defScope (top 38)) := ⟨rfl, rfl, rfl, by decide +kernel, rfl, by decide +kernel, by decide +kernel⟩
theorem d_first_bad_line_texts {cl : CF} {s_bad_input s_is_formula s_bad_let s_bad_out : DSp} (G : Gb K w mg) (hcl : CfOk K cl) (C_bad_input : Cal P w K mg base k "bad_input" ["text", "at"] s_bad_input) (C_is_formula : Cal P w K mg base k "is_formula" ["formula", "width", "names", "most"] s_is_formula) (C_bad_let : Cal P w K mg base k "bad_let" ["text", "at"] s_bad_let) (C_bad_out : Cal P w K mg base k "bad_out" ["text", "at"] s_bad_out) (T : TopA K mg "first_bad_line_texts" "first_bad_line" (top 38)) {sp : DSp} (len : ∀ ds M Q E, sp ds M Q E → ds.length = 1)
    (hq : ∀ ds M Q E, sp ds M Q E → b_first_bad_line cl s_bad_input s_is_formula s_bad_let s_bad_out { nx := fun _ M' => Q .non M', rt := Q } (startD 3 ds) M) : Cal P w K mg base (k + 1) "first_bad_line_texts" ["text"] sp := by
  refine cala_mk (N := nm_first_bad_line_texts) T sc_first_bad_line_texts (fun _ _ _ _ _ _ us hl => match us, hl with | [_], _ => rfl) (fun f cdv A outer s H E hr => ?_) len hq
  have hu := hu66 hr
  have hu1 := hu_of hr
  exact rss_cons (rs_if (rt_not (rt_chain (op_le) (rr_le) (op_le) (rr_le) (re_int) (re_fld hcl (re_var 0 (pv 0))) (re_int))) (rss_one (rs_ret (re_int))) (rss_nil)) (rss_cons (rs_set (i := 1) sc_first_bad_line_texts.nd rfl (by first | exact .inl rfl | exact .inr rfl) (re_int)) (rss_cons (rs_for PassesOwn.never rfl (ri_rng1 rfl G.range (ra_cons (re_callB rl_len call_lenA rfl G.len (by decide +kernel) (ra_cons (re_fld hcl (re_var 0 (pv 0))) (ra_nil))) (ra_nil))) (ptg_name (pg_name (i := 2) sc_first_bad_line_texts.nd rfl (by first | exact .inl rfl | exact .inr rfl))) (rss_cons (rs_augAdd (i := 1) sc_first_bad_line_texts.nd rfl (by first | exact .inl rfl | exact .inr rfl) (re_int)) (rss_one (rs_if (rt_val (re_cal C_bad_input hr (ra_cons (re_var 0 (pv 0)) (ra_cons (re_var 2 (pv 2)) (ra_nil))))) (rss_one (rs_ret (re_var 1 (pv 1)))) (rss_nil))))) (rss_cons (rs_for PassesOwn.never rfl (ri_rng1 rfl G.range (ra_cons (re_callB rl_len call_lenA rfl G.len (by decide +kernel) (ra_cons (re_fld hcl (re_var 0 (pv 0))) (ra_nil))) (ra_nil))) (ptg_name (pg_name (i := 2) sc_first_bad_line_texts.nd rfl (by first | exact .inl rfl | exact .inr rfl))) (rss_cons (rs_augAdd (i := 1) sc_first_bad_line_texts.nd rfl (by first | exact .inl rfl | exact .inr rfl) (re_int)) (rss_one (rs_if (PW.pt (rw_or (rt_cmp (op_ge) (rr_ge) (re_var 2 (pv 2)) (re_gint G.c_MOST_NEEDS) (nomark _)) (rw_or1 (rt_not (rt_val (re_cal C_is_formula hr (ra_cons (re_ix (ix_all hu1) rr_ix (re_fld hcl (re_var 0 (pv 0))) (re_var 2 (pv 2)) (fun _ _ => rfl)) (ra_cons (re_fld hcl (re_var 0 (pv 0))) (ra_cons (re_fld hcl (re_var 0 (pv 0))) (ra_cons (re_gint G.c_MOST_SIZE) (ra_nil))))))))))) (rss_one (rs_ret (re_var 1 (pv 1)))) (rss_nil))))) (rss_cons (rs_for PassesOwn.never rfl (ri_rng1 rfl G.range (ra_cons (re_callB rl_len call_lenA rfl G.len (by decide +kernel) (ra_cons (re_fld hcl (re_var 0 (pv 0))) (ra_nil))) (ra_nil))) (ptg_name (pg_name (i := 2) sc_first_bad_line_texts.nd rfl (by first | exact .inl rfl | exact .inr rfl))) (rss_cons (rs_augAdd (i := 1) sc_first_bad_line_texts.nd rfl (by first | exact .inl rfl | exact .inr rfl) (re_int)) (rss_one (rs_if (rt_val (re_cal C_bad_let hr (ra_cons (re_var 0 (pv 0)) (ra_cons (re_var 2 (pv 2)) (ra_nil))))) (rss_one (rs_ret (re_var 1 (pv 1)))) (rss_nil))))) (rss_cons (rs_for PassesOwn.never rfl (ri_rng1 rfl G.range (ra_cons (re_callB rl_len call_lenA rfl G.len (by decide +kernel) (ra_cons (re_fld hcl (re_var 0 (pv 0))) (ra_nil))) (ra_nil))) (ptg_name (pg_name (i := 2) sc_first_bad_line_texts.nd rfl (by first | exact .inl rfl | exact .inr rfl))) (rss_cons (rs_augAdd (i := 1) sc_first_bad_line_texts.nd rfl (by first | exact .inl rfl | exact .inr rfl) (re_int)) (rss_one (rs_if (rt_val (re_cal C_bad_out hr (ra_cons (re_var 0 (pv 0)) (ra_cons (re_var 2 (pv 2)) (ra_nil))))) (rss_one (rs_ret (re_var 1 (pv 1)))) (rss_nil))))) (rss_one (rs_ret (re_int))))))))
def nm_row_env : List Str := ["text", "row", "env", "name", "word"]
theorem sc_row_env : FnScope nm_row_env ["text", "row"] (defScope (top 40)) := ⟨rfl, rfl, rfl, by decide +kernel, rfl, by decide +kernel, by decide +kernel⟩
theorem d_row_env {cl : CF} (G : Gb K w mg) (hcl : CfOk K cl) (T : Top K mg "row_env" (top 40)) {sp : DSp} (len : ∀ ds M Q E, sp ds M Q E → ds.length = 2)
    (hq : ∀ ds M Q E, sp ds M Q E → b_row_env cl { nx := fun _ M' => Q .non M', rt := Q } (startD 5 ds) M) : Cal P w K mg base (k + 1) "row_env" ["text", "row"] sp := by
  refine cal_mk (N := nm_row_env) T sc_row_env (fun _ _ _ _ _ _ us hl => match us, hl with | [_, _], _ => rfl) (fun f cdv A outer s H E hr => ?_) len hq
  have hu := hu66 hr
  have hu1 := hu_of hr
  exact rss_cons (rs_set (i := 2) sc_row_env.nd rfl (by first | exact .inl rfl | exact .inr rfl) (re_newK)) (rss_cons (rs_for PassesOwn.never rfl (ri_zip rfl G.zip (ra_cons (re_fld hcl (re_var 0 (pv 0))) (ra_cons (re_var 1 (pv 1)) (ra_nil)))) (ptg_two rfl (pg_name (i := 3) sc_row_env.nd rfl (by first | exact .inl rfl | exact .inr rfl)) (pg_name (i := 4) sc_row_env.nd rfl (by first | exact .inl rfl | exact .inr rfl))) (rss_one (rs_setIx hu1 (re_var 2 (pv 2)) (re_var 3 (pv 3)) (re_var 4 (pv 4))))) (rss_one (rs_ret (re_var 2 (pv 2)))))
def nm_text_outputs : List Str := ["text", "row", "env", "name", "formula", "found", "register"]
theorem sc_text_outputs : FnScope nm_text_outputs ["text", "row"] (defScope (top 41)) := ⟨rfl, rfl, rfl, by decide +kernel, rfl, by decide +kernel, by decide +kernel⟩
theorem d_text_outputs {cl : CF} {s_row_env s_formula_value : DSp} (G : Gb K w mg) (hcl : CfOk K cl) (C_row_env : Cal P w K mg base k "row_env" ["text", "row"] s_row_env) (C_formula_value : Cal P w K mg base k "formula_value" ["formula", "width", "env"] s_formula_value) (T : Top K mg "text_outputs" (top 41)) {sp : DSp} (len : ∀ ds M Q E, sp ds M Q E → ds.length = 2)
    (hq : ∀ ds M Q E, sp ds M Q E → b_text_outputs cl s_row_env s_formula_value { nx := fun _ M' => Q .non M', rt := Q } (startD 7 ds) M) : Cal P w K mg base (k + 1) "text_outputs" ["text", "row"] sp := by
  refine cal_mk (N := nm_text_outputs) T sc_text_outputs (fun _ _ _ _ _ _ us hl => match us, hl with | [_, _], _ => rfl) (fun f cdv A outer s H E hr => ?_) len hq
  have hu := hu66 hr
  have hu1 := hu_of hr
  exact rss_cons (rs_set (i := 2) sc_text_outputs.nd rfl (by first | exact .inl rfl | exact .inr rfl) (re_cal C_row_env hr (ra_cons (re_var 0 (pv 0)) (ra_cons (re_var 1 (pv 1)) (ra_nil))))) (rss_cons (rs_for PassesOwn.never rfl (ri_val (re_fld hcl (re_var 0 (pv 0)))) (ptg_two rfl (pg_name (i := 3) sc_text_outputs.nd rfl (by first | exact .inl rfl | exact .inr rfl)) (pg_name (i := 4) sc_text_outputs.nd rfl (by first | exact .inl rfl | exact .inr rfl))) (rss_one (rs_setIx hu1 (re_var 2 (pv 2)) (re_var 3 (pv 3)) (re_cal C_formula_value hr (ra_cons (re_var 4 (pv 4)) (ra_cons (re_fld hcl (re_var 0 (pv 0))) (ra_cons (re_var 2 (pv 2)) (ra_nil)))))))) (rss_cons (rs_set (i := 5) sc_text_outputs.nd rfl (by first | exact .inl rfl | exact .inr rfl) (re_lst (ra_nil))) (rss_cons (rs_for PassesOwn.never rfl (ri_val (re_fld hcl (re_var 0 (pv 0)))) (ptg_two rfl (pg_name (i := 6) sc_text_outputs.nd rfl (by first | exact .inl rfl | exact .inr rfl)) (pg_name (i := 4) sc_text_outputs.nd rfl (by first | exact .inl rfl | exact .inr rfl))) (rss_one (rs_expr (re_append (re_var 5 (pv 5)) (re_tup (ra_cons (re_var 6 (pv 6)) (ra_cons (re_cal C_formula_value hr (ra_cons (re_var 4 (pv 4)) (ra_cons (re_fld hcl (re_var 0 (pv 0))) (ra_cons (re_var 2 (pv 2)) (ra_nil))))) (ra_nil)))))))) (rss_one (rs_ret (re_callTy rl_tuple call_tuple_of rfl G.tuple (by decide +kernel) (ra_cons (re_var 5 (pv 5)) (ra_nil))))))))
def nm_check_code : List Str := ["book", "code", "at"]
theorem sc_check_code : FnScope nm_check_code ["book", "code"] (defScope (top 44)) := ⟨rfl, rfl, rfl, by decide +kernel, rfl, by decide +kernel, by decide +kernel⟩
theorem d_check_code {c_Book : Addr} {s_Bookis_step : DSp} (G : Gb K w mg) (Mt_Bookis_step : CalM P w K mg base k c_Book "is_step" ["self", "step"] s_Bookis_step) (T : Top K mg "check_code" (top 44)) {sp : DSp} (len : ∀ ds M Q E, sp ds M Q E → ds.length = 2)
    (hq : ∀ ds M Q E, sp ds M Q E → b_check_code c_Book s_Bookis_step { nx := fun _ M' => Q .non M', rt := Q } (startD 3 ds) M) : Cal P w K mg base (k + 1) "check_code" ["book", "code"] sp := by
  refine cal_mk (N := nm_check_code) T sc_check_code (fun _ _ _ _ _ _ us hl => match us, hl with | [_, _], _ => rfl) (fun f cdv A outer s H E hr => ?_) len hq
  have hu := hu66 hr
  have hu1 := hu_of hr
  exact rss_one (rs_for PassesOwn.never rfl (ri_rng1 rfl G.range (ra_cons (re_callB rl_len call_lenA rfl G.len (by decide +kernel) (ra_cons (re_var 1 (pv 1)) (ra_nil))) (ra_nil))) (ptg_name (pg_name (i := 2) sc_check_code.nd rfl (by first | exact .inl rfl | exact .inr rfl))) (rss_one (rs_if (PW.pt (rw_or (rt_cmp (op_ge) (rr_ge) (re_var 2 (pv 2)) (re_gint G.c_MOST_STEPS) (nomark _)) (rw_or1 (rt_not (rt_val (re_meth Mt_Bookis_step hr (re_var 0 (pv 0)) (ra_cons (re_ix (ix_all hu1) rr_ix (re_var 1 (pv 1)) (re_var 2 (pv 2)) (fun _ _ => rfl)) (ra_nil)))))))) (rss_one (rs_never)) (rss_nil))))
theorem d_check_codeX {c_Book : Addr} {c_BadCode : Addr} {s_Bookis_step : DSp} (G : Gb K w mg) (M_BadCode : mg "BadCode" = some (.ref c_BadCode)) (E_BadCode : CalE P w K mg base k "BadCode" c_BadCode "at" okNat) (Mt_Bookis_step : CalM P w K mg base (k + 1) c_Book "is_step" ["self", "step"] s_Bookis_step) (T : Top K mg "check_code" (top 44)) {sp : DSp} (len : ∀ ds M Q E, sp ds M Q E → ds.length = 2)
    (hq : ∀ ds M Q E, sp ds M Q E → b_check_code_x c_Book c_BadCode s_Bookis_step { nx := fun _ M' => Q .non M', rt := Q, xc := fun cls d _ M' => E cls d M' } (startD 3 ds) M) : CalX P w K mg base ((k + 1) + 1) "check_code" ["book", "code"] sp := by
  refine calx_mk (N := nm_check_code) T sc_check_code (fun _ _ _ _ _ _ us hl => match us, hl with | [_, _], _ => rfl) (fun f cdv A outer s H E hr => ?_) len hq
  have hu := hu66 hr
  have hu1 := hu_of hr
  exact rss_one (rs_for (passes_of rfl) rfl (ri_rng1 rfl G.range (ra_cons (re_callB rl_len call_lenA rfl G.len (by decide +kernel) (ra_cons (re_var 1 (pv 1)) (ra_nil))) (ra_nil))) (ptg_name (pg_name (i := 2) sc_check_code.nd rfl (by first | exact .inl rfl | exact .inr rfl))) (rss_one (rs_if (PW.pt (rw_or (rt_cmp (op_ge) (rr_ge) (re_var 2 (pv 2)) (re_gint G.c_MOST_STEPS) (nomark _)) (rw_or1 (rt_not (rt_val (re_meth Mt_Bookis_step hr (re_var 0 (pv 0)) (ra_cons (re_ix (ix_all hu1) rr_ix (re_var 1 (pv 1)) (re_var 2 (pv 2)) (fun _ _ => rfl)) (ra_nil)))))))) (rss_one (rs_raise E_BadCode hr okNat_rep rfl (re_var 2 (pv 2)))) (rss_nil))))
def nm_code_text : List Str := ["book", "code", "ends", "inputs", "register", "holders", "lets", "at", "name", "sources", "word", "target", "env", "letter", "source"]
theorem sc_code_text : FnScope nm_code_text ["book", "code", "ends"] (defScope (top 47)) := ⟨rfl, rfl, rfl, by decide +kernel, rfl, by decide +kernel, by decide +kernel⟩
theorem d_code_text {cl : CF} {c_Text : Addr} {s_Text : DSp} {c_Book : Addr} {s_Bookdeed s_check_code s_put_in : DSp} (G : Gb K w mg) (hcl : CfOk K cl) (I_Text : CalI P w K mg base k "Text" c_Text ["self", "width", "inputs", "needs", "lets", "outs"] s_Text) (Mt_Bookdeed : CalM P w K mg base (k + 1) c_Book "deed" ["self", "name"] s_Bookdeed) (C_check_code : Cal P w K mg base (k + 1) "check_code" ["book", "code"] s_check_code) (C_put_in : Cal P w K mg base (k + 1) "put_in" ["formula", "env"] s_put_in) (T : Top K mg "code_text" (top 47)) {sp : DSp} (len : ∀ ds M Q E, sp ds M Q E → ds.length = 3)
    (hq : ∀ ds M Q E, sp ds M Q E → b_code_text cl c_Text s_Text c_Book s_Bookdeed s_check_code s_put_in { nx := fun _ M' => Q .non M', rt := Q } (startD 15 ds) M) : Cal P w K mg base ((k + 1) + 1) "code_text" ["book", "code", "ends"] sp := by
  refine cal_mk (N := nm_code_text) T sc_code_text (fun _ _ _ _ _ _ us hl => match us, hl with | [_, _, _], _ => rfl) (fun f cdv A outer s H E hr => ?_) len hq
  have hu := hu66 hr
  have hu1 := hu_of hr
  exact rss_cons (rs_expr (re_cal C_check_code hr (ra_cons (re_var 0 (pv 0)) (ra_cons (re_var 1 (pv 1)) (ra_nil))))) (rss_cons (rs_if (rt_cmp (op_gt) (rr_gt) (re_callB rl_len call_lenA rfl G.len (by decide +kernel) (ra_cons (re_var 1 (pv 1)) (ra_nil))) (re_gint G.c_MOST_LINES) (nomark _)) (rss_one (rs_never)) (rss_nil)) (rss_cons (rs_setLc (i := 3) (own := [("register", 4)]) rfl sc_code_text.nd rfl rfl (sw_true rfl rfl rfl (by decide +kernel)) (ri_rng1 rfl G.range (ra_cons (re_fld hcl (re_var 0 (pv 0))) (ra_nil))) (blkOk_by (own := [("register", 4)]) (N := nm_code_text) (sc := defScope (top 47)) (by decide +kernel)) (by decide) (fun _ _ _ _ _ => (ptg_name (pg_name (i := 4) sc_code_text.nd rfl (by first | exact .inl rfl | exact .inr rfl)))) (fun _ _ _ _ _ => rts_nil) (fun _ _ _ _ _ => re_fs (re_var 4 (pv 4)))) (rss_cons (rs_set (i := 5) sc_code_text.nd rfl (by first | exact .inl rfl | exact .inr rfl) (re_callTy rl_list call_list_of rfl G.list (by decide +kernel) (ra_cons (re_var 3 (pv 3)) (ra_nil)))) (rss_cons (rs_set (i := 6) sc_code_text.nd rfl (by first | exact .inl rfl | exact .inr rfl) (re_lst (ra_nil))) (rss_cons (rs_for PassesOwn.never rfl (ri_enumerate rfl G.enumerate (ra_cons (re_var 1 (pv 1)) (ra_nil))) (ptg_nt (is := [8, 9, 10, 11]) rfl (pg_name (i := 7) sc_code_text.nd rfl (by first | exact .inl rfl | exact .inr rfl)) (pgs_cons (pg_name (i := 8) sc_code_text.nd rfl (by first | exact .inl rfl | exact .inr rfl)) (pgs_cons (pg_name (i := 9) sc_code_text.nd rfl (by first | exact .inl rfl | exact .inr rfl)) (pgs_cons (pg_name (i := 10) sc_code_text.nd rfl (by first | exact .inl rfl | exact .inr rfl)) (pgs_cons (pg_name (i := 11) sc_code_text.nd rfl (by first | exact .inl rfl | exact .inr rfl)) (pgs_nil)))))) (rss_cons (rs_set (i := 12) sc_code_text.nd rfl (by first | exact .inl rfl | exact .inr rfl) (re_disp (ps := [(dC (.str "k"), dVar 10)]) (pps_cons (re_str) (re_var 10 (pv 10)) (pps_nil)) (by rfl) (by rfl) (fun z => by cases z) (by decide))) (rss_cons (rs_for PassesOwn.never rfl (ri_zip rfl G.zip (ra_cons (re_str) (ra_cons (re_var 9 (pv 9)) (ra_nil)))) (ptg_two rfl (pg_name (i := 13) sc_code_text.nd rfl (by first | exact .inl rfl | exact .inr rfl)) (pg_name (i := 14) sc_code_text.nd rfl (by first | exact .inl rfl | exact .inr rfl))) (rss_one (rs_setIx hu1 (re_var 12 (pv 12)) (re_var 13 (pv 13)) (re_ix (ix_all hu1) rr_ix (re_var 5 (pv 5)) (re_var 14 (pv 14)) (fun _ _ => rfl))))) (rss_cons (rs_setIx hu1 (re_var 5 (pv 5)) (re_var 11 (pv 11)) (re_fs (re_var 7 (pv 7)))) (rss_one (rs_expr (re_append (re_var 6 (pv 6)) (re_tup (ra_cons (re_ix (ix_all hu1) rr_ix (re_var 5 (pv 5)) (re_var 11 (pv 11)) (fun _ _ => rfl)) (ra_cons (re_cal C_put_in hr (ra_cons (re_ix (ix_all hu1) rr_ix (re_meth Mt_Bookdeed hr (re_var 0 (pv 0)) (ra_cons (re_var 8 (pv 8)) (ra_nil))) (re_int) (fun _ _ => rfl)) (ra_cons (re_var 12 (pv 12)) (ra_nil)))) (ra_nil))))))))))) (rss_one (rs_ret (re_make I_Text hr (ra_cons (re_fld hcl (re_var 0 (pv 0))) (ra_cons (re_var 3 (pv 3)) (ra_cons (re_lst (ra_nil)) (ra_cons (re_var 6 (pv 6)) (ra_cons (re_lc (own := [("register", 4)]) rfl sc_code_text.nd (ri_val (re_var 2 (pv 2))) (blkOk_by (own := [("register", 4)]) (N := nm_code_text) (sc := defScope (top 47)) (by decide +kernel)) (by decide) (fun _ _ _ _ _ => (ptg_name (pg_name (i := 4) sc_code_text.nd rfl (by first | exact .inl rfl | exact .inr rfl)))) (fun _ _ _ _ _ => rts_nil) (fun _ _ _ _ _ => re_tup (ra_cons (re_var 4 (pv 4)) (ra_cons (re_ix (ix_all hu1) rr_ix (re_var 5 (pv 5)) (re_var 4 (pv 4)) (fun _ _ => rfl)) (ra_nil))))) (ra_nil))))))))))))))
theorem d_code_textX {cl : CF} {c_Text : Addr} {s_Text : DSp} {c_Book : Addr} {c_TooMany : Addr} {s_Bookdeed s_check_codeX s_put_in : DSp} (G : Gb K w mg) (hcl : CfOk K cl) (M_TooMany : mg "TooMany" = some (.ref c_TooMany)) (E_TooMany : CalE P w K mg base k "TooMany" c_TooMany "limit" okNat) (I_Text : CalI P w K mg base k "Text" c_Text ["self", "width", "inputs", "needs", "lets", "outs"] s_Text) (Mt_Bookdeed : CalM P w K mg base (k + 1) c_Book "deed" ["self", "name"] s_Bookdeed) (CX_check_code : CalX P w K mg base (k + 1) "check_code" ["book", "code"] s_check_codeX) (C_put_in : Cal P w K mg base (k + 1) "put_in" ["formula", "env"] s_put_in) (T : Top K mg "code_text" (top 47)) {sp : DSp} (len : ∀ ds M Q E, sp ds M Q E → ds.length = 3)
    (hq : ∀ ds M Q E, sp ds M Q E → b_code_text_x cl c_Text s_Text c_Book c_TooMany s_Bookdeed s_check_codeX s_put_in { nx := fun _ M' => Q .non M', rt := Q, xc := fun cls d _ M' => E cls d M' } (startD 15 ds) M) : CalX P w K mg base ((k + 1) + 1) "code_text" ["book", "code", "ends"] sp := by
  refine calx_mk (N := nm_code_text) T sc_code_text (fun _ _ _ _ _ _ us hl => match us, hl with | [_, _, _], _ => rfl) (fun f cdv A outer s H E hr => ?_) len hq
  have hu := hu66 hr
  have hu1 := hu_of hr
  exact rss_cons (rs_dropR (rx_call CX_check_code hr (ra_cons (re_var 0 (pv 0)) (ra_cons (re_var 1 (pv 1)) (ra_nil))))) (rss_cons (rs_if (rt_cmp (op_gt) (rr_gt) (re_callB rl_len call_lenA rfl G.len (by decide +kernel) (ra_cons (re_var 1 (pv 1)) (ra_nil))) (re_gint G.c_MOST_LINES) (nomark _)) (rss_one (rs_raise E_TooMany hr okNat_rep rfl (re_gint G.c_MOST_LINES))) (rss_nil)) (rss_cons (rs_setLc (i := 3) (own := [("register", 4)]) rfl sc_code_text.nd rfl rfl (sw_true rfl rfl rfl (by decide +kernel)) (ri_rng1 rfl G.range (ra_cons (re_fld hcl (re_var 0 (pv 0))) (ra_nil))) (blkOk_by (own := [("register", 4)]) (N := nm_code_text) (sc := defScope (top 47)) (by decide +kernel)) (by decide) (fun _ _ _ _ _ => (ptg_name (pg_name (i := 4) sc_code_text.nd rfl (by first | exact .inl rfl | exact .inr rfl)))) (fun _ _ _ _ _ => rts_nil) (fun _ _ _ _ _ => re_fs (re_var 4 (pv 4)))) (rss_cons (rs_set (i := 5) sc_code_text.nd rfl (by first | exact .inl rfl | exact .inr rfl) (re_callTy rl_list call_list_of rfl G.list (by decide +kernel) (ra_cons (re_var 3 (pv 3)) (ra_nil)))) (rss_cons (rs_set (i := 6) sc_code_text.nd rfl (by first | exact .inl rfl | exact .inr rfl) (re_lst (ra_nil))) (rss_cons (rs_for (passes_of rfl) rfl (ri_enumerate rfl G.enumerate (ra_cons (re_var 1 (pv 1)) (ra_nil))) (ptg_nt (is := [8, 9, 10, 11]) rfl (pg_name (i := 7) sc_code_text.nd rfl (by first | exact .inl rfl | exact .inr rfl)) (pgs_cons (pg_name (i := 8) sc_code_text.nd rfl (by first | exact .inl rfl | exact .inr rfl)) (pgs_cons (pg_name (i := 9) sc_code_text.nd rfl (by first | exact .inl rfl | exact .inr rfl)) (pgs_cons (pg_name (i := 10) sc_code_text.nd rfl (by first | exact .inl rfl | exact .inr rfl)) (pgs_cons (pg_name (i := 11) sc_code_text.nd rfl (by first | exact .inl rfl | exact .inr rfl)) (pgs_nil)))))) (rss_cons (rs_set (i := 12) sc_code_text.nd rfl (by first | exact .inl rfl | exact .inr rfl) (re_disp (ps := [(dC (.str "k"), dVar 10)]) (pps_cons (re_str) (re_var 10 (pv 10)) (pps_nil)) (by rfl) (by rfl) (fun z => by cases z) (by decide))) (rss_cons (rs_for (passes_of rfl) rfl (ri_zip rfl G.zip (ra_cons (re_str) (ra_cons (re_var 9 (pv 9)) (ra_nil)))) (ptg_two rfl (pg_name (i := 13) sc_code_text.nd rfl (by first | exact .inl rfl | exact .inr rfl)) (pg_name (i := 14) sc_code_text.nd rfl (by first | exact .inl rfl | exact .inr rfl))) (rss_one (rs_setIx hu1 (re_var 12 (pv 12)) (re_var 13 (pv 13)) (re_ix (ix_all hu1) rr_ix (re_var 5 (pv 5)) (re_var 14 (pv 14)) (fun _ _ => rfl))))) (rss_cons (rs_setIx hu1 (re_var 5 (pv 5)) (re_var 11 (pv 11)) (re_fs (re_var 7 (pv 7)))) (rss_one (rs_expr (re_append (re_var 6 (pv 6)) (re_tup (ra_cons (re_ix (ix_all hu1) rr_ix (re_var 5 (pv 5)) (re_var 11 (pv 11)) (fun _ _ => rfl)) (ra_cons (re_cal C_put_in hr (ra_cons (re_ix (ix_all hu1) rr_ix (re_meth Mt_Bookdeed hr (re_var 0 (pv 0)) (ra_cons (re_var 8 (pv 8)) (ra_nil))) (re_int) (fun _ _ => rfl)) (ra_cons (re_var 12 (pv 12)) (ra_nil)))) (ra_nil))))))))))) (rss_one (rs_ret (re_make I_Text hr (ra_cons (re_fld hcl (re_var 0 (pv 0))) (ra_cons (re_var 3 (pv 3)) (ra_cons (re_lst (ra_nil)) (ra_cons (re_var 6 (pv 6)) (ra_cons (re_lc (own := [("register", 4)]) rfl sc_code_text.nd (ri_val (re_var 2 (pv 2))) (blkOk_by (own := [("register", 4)]) (N := nm_code_text) (sc := defScope (top 47)) (by decide +kernel)) (by decide) (fun _ _ _ _ _ => (ptg_name (pg_name (i := 4) sc_code_text.nd rfl (by first | exact .inl rfl | exact .inr rfl)))) (fun _ _ _ _ _ => rts_nil) (fun _ _ _ _ _ => re_tup (ra_cons (re_var 4 (pv 4)) (ra_cons (re_ix (ix_all hu1) rr_ix (re_var 5 (pv 5)) (re_var 4 (pv 4)) (fun _ _ => rfl)) (ra_nil))))) (ra_nil))))))))))))))
def nm_live_ahead : List Str := ["step", "live", "name", "sources", "word", "target", "kept", "register"]
theorem sc_live_ahead : FnScope nm_live_ahead ["step", "live"] (defScope (top 49)) := ⟨rfl, rfl, rfl, by decide +kernel, rfl, by decide +kernel, by decide +kernel⟩
theorem d_live_ahead (G : Gb K w mg) (T : Top K mg "live_ahead" (top 49)) {sp : DSp} (len : ∀ ds M Q E, sp ds M Q E → ds.length = 2)
    (hq : ∀ ds M Q E, sp ds M Q E → b_live_ahead { nx := fun _ M' => Q .non M', rt := Q } (startD 8 ds) M) : Cal P w K mg base (k + 1) "live_ahead" ["step", "live"] sp := by
  refine cal_mk (N := nm_live_ahead) T sc_live_ahead (fun _ _ _ _ _ _ us hl => match us, hl with | [_, _], _ => rfl) (fun f cdv A outer s H E hr => ?_) len hq
  have hu := hu66 hr
  have hu1 := hu_of hr
  exact rss_cons (rs_asg (re_var 0 (pv 0)) (ptg_tup (is := [2, 3, 4, 5]) rfl (pgs_cons (pg_name (i := 2) sc_live_ahead.nd rfl (by first | exact .inl rfl | exact .inr rfl)) (pgs_cons (pg_name (i := 3) sc_live_ahead.nd rfl (by first | exact .inl rfl | exact .inr rfl)) (pgs_cons (pg_name (i := 4) sc_live_ahead.nd rfl (by first | exact .inl rfl | exact .inr rfl)) (pgs_cons (pg_name (i := 5) sc_live_ahead.nd rfl (by first | exact .inl rfl | exact .inr rfl)) (pgs_nil))))) rfl)) (rss_cons (rs_setLc (i := 6) (own := [("register", 7)]) rfl sc_live_ahead.nd rfl rfl (sw_true rfl rfl rfl (by decide +kernel)) (ri_val (re_var 1 (pv 1))) (blkOk_by (own := [("register", 7)]) (N := nm_live_ahead) (sc := defScope (top 49)) (by decide +kernel)) (by decide) (fun _ _ _ _ _ => (ptg_name (pg_name (i := 7) sc_live_ahead.nd rfl (by first | exact .inl rfl | exact .inr rfl)))) (fun _ _ _ _ _ => rts_one (rt_cmp (op_neA hu) (rr_ne) (re_var 7 (pv 7)) (re_var 5 (pv 5)) (nomark _))) (fun _ _ _ _ _ => re_var 7 (pv 7))) (rss_one (rs_ret (re_callTy rl_tuple call_tuple_of rfl G.tuple (by decide +kernel) (ra_cons (re_srtSet rfl rfl G.sorted (by decide +kernel) rfl G.set (by decide +kernel) (re_lst (ra_star (re_var 6 (pv 6)) (ra_star (re_var 3 (pv 3)) (ra_nil))))) (ra_nil))))))
def nm_live_sets : List Str := ["book", "code", "ends", "found", "step"]
theorem sc_live_sets : FnScope nm_live_sets ["book", "code", "ends"] (defScope (top 50)) := ⟨rfl, rfl, rfl, by decide +kernel, rfl, by decide +kernel, by decide +kernel⟩
theorem d_live_sets {s_check_code s_live_ahead : DSp} (G : Gb K w mg) (C_check_code : Cal P w K mg base k "check_code" ["book", "code"] s_check_code) (C_live_ahead : Cal P w K mg base k "live_ahead" ["step", "live"] s_live_ahead) (T : Top K mg "live_sets" (top 50)) {sp : DSp} (len : ∀ ds M Q E, sp ds M Q E → ds.length = 3)
    (hq : ∀ ds M Q E, sp ds M Q E → b_live_sets s_check_code s_live_ahead { nx := fun _ M' => Q .non M', rt := Q } (startD 5 ds) M) : Cal P w K mg base (k + 1) "live_sets" ["book", "code", "ends"] sp := by
  refine cal_mk (N := nm_live_sets) T sc_live_sets (fun _ _ _ _ _ _ us hl => match us, hl with | [_, _, _], _ => rfl) (fun f cdv A outer s H E hr => ?_) len hq
  have hu := hu66 hr
  have hu1 := hu_of hr
  exact rss_cons (rs_expr (re_cal C_check_code hr (ra_cons (re_var 0 (pv 0)) (ra_cons (re_var 1 (pv 1)) (ra_nil))))) (rss_cons (rs_set (i := 3) sc_live_sets.nd rfl (by first | exact .inl rfl | exact .inr rfl) (re_lst (ra_cons (re_callTy rl_tuple call_tuple_of rfl G.tuple (by decide +kernel) (ra_cons (re_var 2 (pv 2)) (ra_nil))) (ra_nil)))) (rss_cons (rs_for PassesOwn.never rfl (ri_val (re_revL (re_var 1 (pv 1)))) (ptg_name (pg_name (i := 4) sc_live_sets.nd rfl (by first | exact .inl rfl | exact .inr rfl))) (rss_one (rs_expr (re_append (re_var 3 (pv 3)) (re_cal C_live_ahead hr (ra_cons (re_var 4 (pv 4)) (ra_cons (re_ix (ix_all hu1) rr_ix (re_var 3 (pv 3)) (re_neg (re_int)) (fun _ _ => rfl)) (ra_nil)))))))) (rss_one (rs_ret (re_revL (re_var 3 (pv 3)))))))
theorem d_live_setsX {s_check_codeX s_live_ahead : DSp} (G : Gb K w mg) (CX_check_code : CalX P w K mg base k "check_code" ["book", "code"] s_check_codeX) (C_live_ahead : Cal P w K mg base k "live_ahead" ["step", "live"] s_live_ahead) (T : Top K mg "live_sets" (top 50)) {sp : DSp} (len : ∀ ds M Q E, sp ds M Q E → ds.length = 3)
    (hq : ∀ ds M Q E, sp ds M Q E → b_live_sets_x s_check_codeX s_live_ahead { nx := fun _ M' => Q .non M', rt := Q, xc := fun cls d _ M' => E cls d M' } (startD 5 ds) M) : CalX P w K mg base (k + 1) "live_sets" ["book", "code", "ends"] sp := by
  refine calx_mk (N := nm_live_sets) T sc_live_sets (fun _ _ _ _ _ _ us hl => match us, hl with | [_, _, _], _ => rfl) (fun f cdv A outer s H E hr => ?_) len hq
  have hu := hu66 hr
  have hu1 := hu_of hr
  exact rss_cons (rs_dropR (rx_call CX_check_code hr (ra_cons (re_var 0 (pv 0)) (ra_cons (re_var 1 (pv 1)) (ra_nil))))) (rss_cons (rs_set (i := 3) sc_live_sets.nd rfl (by first | exact .inl rfl | exact .inr rfl) (re_lst (ra_cons (re_callTy rl_tuple call_tuple_of rfl G.tuple (by decide +kernel) (ra_cons (re_var 2 (pv 2)) (ra_nil))) (ra_nil)))) (rss_cons (rs_for (passes_of rfl) rfl (ri_val (re_revL (re_var 1 (pv 1)))) (ptg_name (pg_name (i := 4) sc_live_sets.nd rfl (by first | exact .inl rfl | exact .inr rfl))) (rss_one (rs_expr (re_append (re_var 3 (pv 3)) (re_cal C_live_ahead hr (ra_cons (re_var 4 (pv 4)) (ra_cons (re_ix (ix_all hu1) rr_ix (re_var 3 (pv 3)) (re_neg (re_int)) (fun _ _ => rfl)) (ra_nil)))))))) (rss_one (rs_ret (re_revL (re_var 3 (pv 3)))))))
def nm_window_text : List Str := ["book", "code", "ends", "at", "length", "live"]
theorem sc_window_text : FnScope nm_window_text ["book", "code", "ends", "at", "length"] (defScope (top 52)) := ⟨rfl, rfl, rfl, by decide +kernel, rfl, by decide +kernel, by decide +kernel⟩
theorem d_window_text {s_live_sets s_code_text : DSp} (G : Gb K w mg) (C_live_sets : Cal P w K mg base k "live_sets" ["book", "code", "ends"] s_live_sets) (C_code_text : Cal P w K mg base k "code_text" ["book", "code", "ends"] s_code_text) (T : Top K mg "window_text" (top 52)) {sp : DSp} (len : ∀ ds M Q E, sp ds M Q E → ds.length = 5)
    (hq : ∀ ds M Q E, sp ds M Q E → b_window_text s_live_sets s_code_text { nx := fun _ M' => Q .non M', rt := Q } (startD 6 ds) M) : Cal P w K mg base (k + 1) "window_text" ["book", "code", "ends", "at", "length"] sp := by
  refine cal_mk (N := nm_window_text) T sc_window_text (fun _ _ _ _ _ _ us hl => match us, hl with | [_, _, _, _, _], _ => rfl) (fun f cdv A outer s H E hr => ?_) len hq
  have hu := hu66 hr
  have hu1 := hu_of hr
  exact rss_cons (rs_set (i := 5) sc_window_text.nd rfl (by first | exact .inl rfl | exact .inr rfl) (re_cal C_live_sets hr (ra_cons (re_var 0 (pv 0)) (ra_cons (re_var 1 (pv 1)) (ra_cons (re_var 2 (pv 2)) (ra_nil)))))) (rss_one (rs_ret (re_cal C_code_text hr (ra_cons (re_var 0 (pv 0)) (ra_cons (re_slice (re_var 1 (pv 1)) (ro_some (re_var 3 (pv 3))) (ro_some (re_add (re_var 3 (pv 3)) (re_var 4 (pv 4))))) (ra_cons (re_ix (ix_all hu1) rr_ix (re_var 5 (pv 5)) (re_add (re_var 3 (pv 3)) (re_var 4 (pv 4))) (fun _ _ => rfl)) (ra_nil)))))))
theorem d_window_textX {s_live_setsX s_code_textX : DSp} (G : Gb K w mg) (CX_live_sets : CalX P w K mg base k "live_sets" ["book", "code", "ends"] s_live_setsX) (CX_code_text : CalX P w K mg base k "code_text" ["book", "code", "ends"] s_code_textX) (T : Top K mg "window_text" (top 52)) {sp : DSp} (len : ∀ ds M Q E, sp ds M Q E → ds.length = 5)
    (hq : ∀ ds M Q E, sp ds M Q E → b_window_text_x s_live_setsX s_code_textX { nx := fun _ M' => Q .non M', rt := Q, xc := fun cls d _ M' => E cls d M' } (startD 6 ds) M) : CalX P w K mg base (k + 1) "window_text" ["book", "code", "ends", "at", "length"] sp := by
  refine calx_mk (N := nm_window_text) T sc_window_text (fun _ _ _ _ _ _ us hl => match us, hl with | [_, _, _, _, _], _ => rfl) (fun f cdv A outer s H E hr => ?_) len hq
  have hu := hu66 hr
  have hu1 := hu_of hr
  exact rss_cons (rs_asgR (i := 5) sc_window_text.nd rfl (by first | exact .inl rfl | exact .inr rfl) (rx_call CX_live_sets hr (ra_cons (re_var 0 (pv 0)) (ra_cons (re_var 1 (pv 1)) (ra_cons (re_var 2 (pv 2)) (ra_nil)))))) (rss_one (rs_retR (rx_call CX_code_text hr (ra_cons (re_var 0 (pv 0)) (ra_cons (re_slice (re_var 1 (pv 1)) (ro_some (re_var 3 (pv 3))) (ro_some (re_add (re_var 3 (pv 3)) (re_var 4 (pv 4))))) (ra_cons (re_ix (ix_all hu1) rr_ix (re_var 5 (pv 5)) (re_add (re_var 3 (pv 3)) (re_var 4 (pv 4))) (fun _ _ => rfl)) (ra_nil)))))))
def nm_source_count : List Str := ["formula", "names"]
theorem sc_source_count : FnScope nm_source_count ["formula"] (defScope (top 59)) := ⟨rfl, rfl, rfl, by decide +kernel, rfl, by decide +kernel, by decide +kernel⟩
theorem d_source_count {s_formula_names : DSp} (G : Gb K w mg) (C_formula_names : Cal P w K mg base k "formula_names" ["formula"] s_formula_names) (T : Top K mg "source_count" (top 59)) {sp : DSp} (len : ∀ ds M Q E, sp ds M Q E → ds.length = 1)
    (hq : ∀ ds M Q E, sp ds M Q E → b_source_count s_formula_names { nx := fun _ M' => Q .non M', rt := Q } (startD 2 ds) M) : Cal P w K mg base (k + 1) "source_count" ["formula"] sp := by
  refine cal_mk (N := nm_source_count) T sc_source_count (fun _ _ _ _ _ _ us hl => match us, hl with | [_], _ => rfl) (fun f cdv A outer s H E hr => ?_) len hq
  have hu := hu66 hr
  have hu1 := hu_of hr
  exact rss_cons (rs_set (i := 1) sc_source_count.nd rfl (by first | exact .inl rfl | exact .inr rfl) (re_cal C_formula_names hr (ra_cons (re_var 0 (pv 0)) (ra_nil)))) (rss_one (rs_ret (re_add (re_callTy rl_int1 call_int1 rfl G.int (by decide +kernel) (ra_cons (re_cmp (op_inA hu1) (rr_in (neg := false)) (re_str) (re_var 1 (pv 1)) rfl) (ra_nil))) (re_callTy rl_int1 call_int1 rfl G.int (by decide +kernel) (ra_cons (re_cmp (op_inA hu1) (rr_in (neg := false)) (re_str) (re_var 1 (pv 1)) rfl) (ra_nil))))))
def nm_takes_word : List Str := ["formula"]
theorem sc_takes_word : FnScope nm_takes_word ["formula"] (defScope (top 60)) := ⟨rfl, rfl, rfl, by decide +kernel, rfl, by decide +kernel, by decide +kernel⟩
theorem d_takes_word {s_formula_names : DSp} (G : Gb K w mg) (C_formula_names : Cal P w K mg base k "formula_names" ["formula"] s_formula_names) (T : Top K mg "takes_word" (top 60)) {sp : DSp} (len : ∀ ds M Q E, sp ds M Q E → ds.length = 1)
    (hq : ∀ ds M Q E, sp ds M Q E → b_takes_word s_formula_names { nx := fun _ M' => Q .non M', rt := Q } (startD 1 ds) M) : Cal P w K mg base (k + 1) "takes_word" ["formula"] sp := by
  refine cal_mk (N := nm_takes_word) T sc_takes_word (fun _ _ _ _ _ _ us hl => match us, hl with | [_], _ => rfl) (fun f cdv A outer s H E hr => ?_) len hq
  have hu := hu66 hr
  have hu1 := hu_of hr
  exact rss_one (rs_ret (re_cmp (op_inA hu1) (rr_in (neg := false)) (re_str) (re_cal C_formula_names hr (ra_cons (re_var 0 (pv 0)) (ra_nil))) rfl))
def nm_bad_deed : List Str := ["book", "at", "name", "price", "formula", "row", "names"]
theorem sc_bad_deed : FnScope nm_bad_deed ["book", "at"] (defScope (top 62)) := ⟨rfl, rfl, rfl, by decide +kernel, rfl, by decide +kernel, by decide +kernel⟩
theorem d_bad_deed {cl : CF} {s_is_name s_is_formula s_formula_names : DSp} (G : Gb K w mg) (hcl : CfOk K cl) (C_is_name : Cal P w K mg base k "is_name" ["name"] s_is_name) (C_is_formula : Cal P w K mg base k "is_formula" ["formula", "width", "names", "most"] s_is_formula) (C_formula_names : Cal P w K mg base k "formula_names" ["formula"] s_formula_names) (T : Top K mg "bad_deed" (top 62)) {sp : DSp} (len : ∀ ds M Q E, sp ds M Q E → ds.length = 2)
    (hq : ∀ ds M Q E, sp ds M Q E → b_bad_deed cl s_is_name s_is_formula s_formula_names { nx := fun _ M' => Q .non M', rt := Q } (startD 7 ds) M) : Cal P w K mg base (k + 1) "bad_deed" ["book", "at"] sp := by
  refine cal_mk (N := nm_bad_deed) T sc_bad_deed (fun _ _ _ _ _ _ us hl => match us, hl with | [_, _], _ => rfl) (fun f cdv A outer s H E hr => ?_) len hq
  have hu := hu66 hr
  have hu1 := hu_of hr
  exact rss_cons (rs_asg (re_ix (ix_all hu1) rr_ix (re_fld hcl (re_var 0 (pv 0))) (re_var 1 (pv 1)) (fun _ _ => rfl)) (ptg_tup (is := [2, 3, 4]) rfl (pgs_cons (pg_name (i := 2) sc_bad_deed.nd rfl (by first | exact .inl rfl | exact .inr rfl)) (pgs_cons (pg_name (i := 3) sc_bad_deed.nd rfl (by first | exact .inl rfl | exact .inr rfl)) (pgs_cons (pg_name (i := 4) sc_bad_deed.nd rfl (by first | exact .inl rfl | exact .inr rfl)) (pgs_nil)))) rfl)) (rss_cons (rs_if (PW.pt (rw_or (rt_cmp (op_ge) (rr_ge) (re_var 1 (pv 1)) (re_gint G.c_MOST_DEEDS) (nomark _)) (rw_or (rt_not (rt_val (re_cal C_is_name hr (ra_cons (re_var 2 (pv 2)) (ra_nil))))) (rw_or1 (rt_cmp (op_inA hu1) (rr_in (neg := false)) (re_var 2 (pv 2)) (re_lc (own := [("row", 5)]) rfl sc_bad_deed.nd (ri_val (re_slice (re_fld hcl (re_var 0 (pv 0))) ro_none (ro_some (re_var 1 (pv 1))))) (blkOk_by (own := [("row", 5)]) (N := nm_bad_deed) (sc := defScope (top 62)) (by decide +kernel)) (by decide) (fun _ _ _ _ _ => (ptg_name (pg_name (i := 5) sc_bad_deed.nd rfl (by first | exact .inl rfl | exact .inr rfl)))) (fun _ _ _ _ _ => rts_nil) (fun _ _ _ _ _ => re_ix (ix_all hu1) rr_ix (re_var 5 (pv 5)) (re_int) (fun _ _ => rfl))) rfl))))) (rss_one (rs_ret (re_bl))) (rss_nil)) (rss_cons (rs_if (rt_not (rt_chain (op_le) (rr_le) (op_le) (rr_le) (re_int) (re_var 3 (pv 3)) (re_gint G.c_MOST_PRICE))) (rss_one (rs_ret (re_bl))) (rss_nil)) (rss_cons (rs_if (rt_not (rt_val (re_cal C_is_formula hr (ra_cons (re_var 4 (pv 4)) (ra_cons (re_fld hcl (re_var 0 (pv 0))) (ra_cons (re_tup (ra_cons (re_str) (ra_cons (re_str) (ra_cons (re_str) (ra_nil))))) (ra_cons (re_gint G.c_DEED_SIZE) (ra_nil)))))))) (rss_one (rs_ret (re_bl))) (rss_nil)) (rss_cons (rs_set (i := 6) sc_bad_deed.nd rfl (by first | exact .inl rfl | exact .inr rfl) (re_cal C_formula_names hr (ra_cons (re_var 4 (pv 4)) (ra_nil)))) (rss_one (rs_ret (re_and (re_cmp (op_inA hu1) (rr_in (neg := false)) (re_str) (re_var 6 (pv 6)) rfl) (re_one (re_cmp (op_notInA hu1) (rr_in (neg := true)) (re_str) (re_var 6 (pv 6)) rfl)))))))))
def nm_bad_words : List Str := ["book", "at"]
theorem sc_bad_words : FnScope nm_bad_words ["book"] (defScope (top 63)) := ⟨rfl, rfl, rfl, by decide +kernel, rfl, by decide +kernel, by decide +kernel⟩
theorem d_bad_words {cl : CF} {s_word_limit : DSp} (G : Gb K w mg) (hcl : CfOk K cl) (C_word_limit : Cal P w K mg base k "word_limit" ["width"] s_word_limit) (T : Top K mg "bad_words" (top 63)) {sp : DSp} (len : ∀ ds M Q E, sp ds M Q E → ds.length = 1)
    (hq : ∀ ds M Q E, sp ds M Q E → b_bad_words cl s_word_limit { nx := fun _ M' => Q .non M', rt := Q } (startD 2 ds) M) : Cal P w K mg base (k + 1) "bad_words" ["book"] sp := by
  refine cal_mk (N := nm_bad_words) T sc_bad_words (fun _ _ _ _ _ _ us hl => match us, hl with | [_], _ => rfl) (fun f cdv A outer s H E hr => ?_) len hq
  have hu := hu66 hr
  have hu1 := hu_of hr
  exact rss_cons (rs_for PassesOwn.never rfl (ri_rng1 rfl G.range (ra_cons (re_callB rl_len call_lenA rfl G.len (by decide +kernel) (ra_cons (re_fld hcl (re_var 0 (pv 0))) (ra_nil))) (ra_nil))) (ptg_name (pg_name (i := 1) sc_bad_words.nd rfl (by first | exact .inl rfl | exact .inr rfl))) (rss_cons (rs_if (rt_not (rt_chain (op_le) (rr_le) (op_lt) (rr_lt) (re_int) (re_ix (ix_all hu1) rr_ix (re_fld hcl (re_var 0 (pv 0))) (re_var 1 (pv 1)) (fun _ _ => rfl)) (re_cal C_word_limit hr (ra_cons (re_fld hcl (re_var 0 (pv 0))) (ra_nil))))) (rss_one (rs_ret (re_bl))) (rss_nil)) (rss_one (rs_if (PW.pt (rw_and (rt_cmp (op_gt) (rr_gt) (re_var 1 (pv 1)) (re_int) (nomark _)) (rw_and1 (rt_cmp (op_le) (rr_le) (re_ix (ix_all hu1) rr_ix (re_fld hcl (re_var 0 (pv 0))) (re_var 1 (pv 1)) (fun _ _ => rfl)) (re_ix (ix_all hu1) rr_ix (re_fld hcl (re_var 0 (pv 0))) (re_sub (re_var 1 (pv 1)) (re_int)) (fun _ _ => rfl)) (nomark _))))) (rss_one (rs_ret (re_bl))) (rss_nil))))) (rss_one (rs_ret (re_bl)))
def nm_first_bad_line_books : List Str := ["book", "at"]
theorem sc_first_bad_line_books : FnScope nm_first_bad_line_books ["book"] (defScope (top 64)) := ⟨rfl, rfl, rfl, by decide +kernel, rfl, by decide +kernel, by decide +kernel⟩
theorem d_first_bad_line_books {cl : CF} {s_bad_words s_bad_deed : DSp} (G : Gb K w mg) (hcl : CfOk K cl) (C_bad_words : Cal P w K mg base k "bad_words" ["book"] s_bad_words) (C_bad_deed : Cal P w K mg base k "bad_deed" ["book", "at"] s_bad_deed) (T : TopA K mg "first_bad_line_books" "first_bad_line" (top 64)) {sp : DSp} (len : ∀ ds M Q E, sp ds M Q E → ds.length = 1)
    (hq : ∀ ds M Q E, sp ds M Q E → b_first_bad_line_v2 cl s_bad_words s_bad_deed { nx := fun _ M' => Q .non M', rt := Q } (startD 2 ds) M) : Cal P w K mg base (k + 1) "first_bad_line_books" ["book"] sp := by
  refine cala_mk (N := nm_first_bad_line_books) T sc_first_bad_line_books (fun _ _ _ _ _ _ us hl => match us, hl with | [_], _ => rfl) (fun f cdv A outer s H E hr => ?_) len hq
  have hu := hu66 hr
  have hu1 := hu_of hr
  exact rss_cons (rs_if (rt_not (rt_chain (op_le) (rr_le) (op_le) (rr_le) (re_int) (re_fld hcl (re_var 0 (pv 0))) (re_int))) (rss_one (rs_ret (re_int))) (rss_nil)) (rss_cons (rs_if (PW.pt (rw_or (rt_not (rt_chain (op_le) (rr_le) (op_le) (rr_le) (re_int) (re_fld hcl (re_var 0 (pv 0))) (re_int))) (rw_or1 (rt_cmp (op_gt) (rr_gt) (re_mul (re_fld hcl (re_var 0 (pv 0))) (re_fld hcl (re_var 0 (pv 0)))) (re_gint G.c_MOST_STATE_BITS) (nomark _))))) (rss_one (rs_ret (re_int))) (rss_nil)) (rss_cons (rs_if (rt_val (re_cal C_bad_words hr (ra_cons (re_var 0 (pv 0)) (ra_nil)))) (rss_one (rs_ret (re_int))) (rss_nil)) (rss_cons (rs_for PassesOwn.never rfl (ri_rng1 rfl G.range (ra_cons (re_callB rl_len call_lenA rfl G.len (by decide +kernel) (ra_cons (re_fld hcl (re_var 0 (pv 0))) (ra_nil))) (ra_nil))) (ptg_name (pg_name (i := 1) sc_first_bad_line_books.nd rfl (by first | exact .inl rfl | exact .inr rfl))) (rss_one (rs_if (rt_val (re_cal C_bad_deed hr (ra_cons (re_var 0 (pv 0)) (ra_cons (re_var 1 (pv 1)) (ra_nil))))) (rss_one (rs_ret (re_add (re_int) (re_var 1 (pv 1))))) (rss_nil)))) (rss_cons (rs_if (rt_cmp (op_eqA hu) (rr_eq) (re_callB rl_len call_lenA rfl G.len (by decide +kernel) (ra_cons (re_fld hcl (re_var 0 (pv 0))) (ra_nil))) (re_int) (nomark _)) (rss_one (rs_ret (re_int))) (rss_nil)) (rss_one (rs_ret (re_int)))))))
def nm__law_mix : List Str := ["number", "k"]
theorem sc__law_mix : FnScope nm__law_mix ["number", "k"] (defScope (top 67)) := ⟨rfl, rfl, rfl, by decide +kernel, rfl, by decide +kernel, by decide +kernel⟩
theorem d__law_mix (G : Gb K w mg) (T : Top K mg "_law_mix" (top 67)) {sp : DSp} (len : ∀ ds M Q E, sp ds M Q E → ds.length = 2)
    (hq : ∀ ds M Q E, sp ds M Q E → b__law_mix { nx := fun _ M' => Q .non M', rt := Q } (startD 2 ds) M) : Cal P w K mg base (k + 1) "_law_mix" ["number", "k"] sp := by
  refine cal_mk (N := nm__law_mix) T sc__law_mix (fun _ _ _ _ _ _ us hl => match us, hl with | [_, _], _ => rfl) (fun f cdv A outer s H E hr => ?_) len hq
  have hu := hu66 hr
  have hu1 := hu_of hr
  exact rss_cons (rs_set (i := 0) sc__law_mix.nd rfl (by first | exact .inl rfl | exact .inr rfl) (re_mod (re_add (re_add (re_mul (re_callTy rl_int1 call_int1 rfl G.int (by decide +kernel) (ra_cons (re_var 0 (pv 0)) (ra_nil))) (re_int)) (re_mul (re_var 1 (pv 1)) (re_int))) (re_int)) (re_int))) (rss_one (rs_ret (re_mod (re_add (re_add (re_mul (re_var 0 (pv 0)) (re_int)) (re_mul (re_var 1 (pv 1)) (re_int))) (re_int)) (re_int))))
def nm__law_stream : List Str := ["script", "many", "numbers", "last", "k", "cell", "j"]
theorem sc__law_stream : FnScope nm__law_stream ["script", "many"] (defScope (top 68)) := ⟨rfl, rfl, rfl, by decide +kernel, rfl, by decide +kernel, by decide +kernel⟩
theorem d__law_stream {s__law_mix : DSp} (G : Gb K w mg) (C__law_mix : Cal P w K mg base k "_law_mix" ["number", "k"] s__law_mix) (T : Top K mg "_law_stream" (top 68)) {sp : DSp} (len : ∀ ds M Q E, sp ds M Q E → ds.length = 2)
    (hq : ∀ ds M Q E, sp ds M Q E → b__law_stream s__law_mix { nx := fun _ M' => Q .non M', rt := Q } (startD 7 ds) M) : Cal P w K mg base (k + 1) "_law_stream" ["script", "many"] sp := by
  refine cal_mk (N := nm__law_stream) T sc__law_stream (fun _ _ _ _ _ _ us hl => match us, hl with | [_, _], _ => rfl) (fun f cdv A outer s H E hr => ?_) len hq
  have hu := hu66 hr
  have hu1 := hu_of hr
  exact rss_cons (rs_set (i := 2) sc__law_stream.nd rfl (by first | exact .inl rfl | exact .inr rfl) (re_lst (ra_nil))) (rss_cons (rs_set (i := 3) sc__law_stream.nd rfl (by first | exact .inl rfl | exact .inr rfl) (re_int)) (rss_cons (rs_for PassesOwn.never rfl (ri_rng1 rfl G.range (ra_cons (re_callB rl_min2 (call_min2 rfl) rfl G.min (by decide +kernel) (ra_cons (re_int) (ra_cons (re_callB rl_len call_lenA rfl G.len (by decide +kernel) (ra_cons (re_var 0 (pv 0)) (ra_nil))) (ra_nil)))) (ra_nil))) (ptg_name (pg_name (i := 4) sc__law_stream.nd rfl (by first | exact .inl rfl | exact .inr rfl))) (rss_cons (rs_set (i := 5) sc__law_stream.nd rfl (by first | exact .inl rfl | exact .inr rfl) (re_callB rl_abs call_abs rfl G.abs (by decide +kernel) (ra_cons (re_callTy rl_int1 call_int1 rfl G.int (by decide +kernel) (ra_cons (re_ix (ix_all hu1) rr_ix (re_var 0 (pv 0)) (re_var 4 (pv 4)) (fun _ _ => rfl)) (ra_nil))) (ra_nil)))) (rss_cons (rs_set (i := 3) sc__law_stream.nd rfl (by first | exact .inl rfl | exact .inr rfl) (re_cal C__law_mix hr (ra_cons (re_add (re_var 3 (pv 3)) (re_mod (re_var 5 (pv 5)) (re_int))) (ra_cons (re_var 4 (pv 4)) (ra_nil))))) (rss_one (rs_if (rt_cmp (op_ge) (rr_ge) (re_var 5 (pv 5)) (re_pow (re_int) (re_int)) (nomark _)) (rss_one (rs_for PassesOwn.never rfl (ri_rng1 rfl G.range (ra_cons (re_int) (ra_nil))) (ptg_name (pg_name (i := 6) sc__law_stream.nd rfl (by first | exact .inl rfl | exact .inr rfl))) (rss_one (rs_if (rt_cmp (op_gt) (rr_gt) (re_var 5 (pv 5)) (re_int) (nomark _)) (rss_cons (rs_expr (re_append (re_var 2 (pv 2)) (re_mod (re_var 5 (pv 5)) (re_int)))) (rss_one (rs_set (i := 5) sc__law_stream.nd rfl (by first | exact .inl rfl | exact .inr rfl) (re_fdiv (re_var 5 (pv 5)) (re_int))))) (rss_nil))))) (rss_one (rs_expr (re_append (re_var 2 (pv 2)) (re_mod (re_cal C__law_mix hr (ra_cons (re_var 5 (pv 5)) (ra_cons (re_var 4 (pv 4)) (ra_nil)))) (re_int)))))))))) (rss_cons (rs_for PassesOwn.never rfl (ri_rng1 rfl G.range (ra_cons (re_var 1 (pv 1)) (ra_nil))) (ptg_name (pg_name (i := 4) sc__law_stream.nd rfl (by first | exact .inl rfl | exact .inr rfl))) (rss_one (rs_if (rt_cmp (op_lt) (rr_lt) (re_callB rl_len call_lenA rfl G.len (by decide +kernel) (ra_cons (re_var 2 (pv 2)) (ra_nil))) (re_var 1 (pv 1)) (nomark _)) (rss_cons (rs_set (i := 3) sc__law_stream.nd rfl (by first | exact .inl rfl | exact .inr rfl) (re_cal C__law_mix hr (ra_cons (re_var 3 (pv 3)) (ra_cons (re_callB rl_len call_lenA rfl G.len (by decide +kernel) (ra_cons (re_var 2 (pv 2)) (ra_nil))) (ra_nil))))) (rss_one (rs_expr (re_append (re_var 2 (pv 2)) (re_mod (re_var 3 (pv 3)) (re_int)))))) (rss_nil)))) (rss_one (rs_ret (re_var 2 (pv 2)))))))
def nm__law_take : List Str := ["numbers", "cursor", "many", "number"]
theorem sc__law_take : FnScope nm__law_take ["numbers", "cursor", "many"] (defScope (top 69)) := ⟨rfl, rfl, rfl, by decide +kernel, rfl, by decide +kernel, by decide +kernel⟩
theorem d__law_take (G : Gb K w mg) (T : Top K mg "_law_take" (top 69)) {sp : DSp} (len : ∀ ds M Q E, sp ds M Q E → ds.length = 3)
    (hq : ∀ ds M Q E, sp ds M Q E → b__law_take { nx := fun _ M' => Q .non M', rt := Q } (startD 4 ds) M) : Cal P w K mg base (k + 1) "_law_take" ["numbers", "cursor", "many"] sp := by
  refine cal_mk (N := nm__law_take) T sc__law_take (fun _ _ _ _ _ _ us hl => match us, hl with | [_, _, _], _ => rfl) (fun f cdv A outer s H E hr => ?_) len hq
  have hu := hu66 hr
  have hu1 := hu_of hr
  exact rss_cons (rs_set (i := 3) sc__law_take.nd rfl (by first | exact .inl rfl | exact .inr rfl) (re_ix (ix_all hu1) rr_ix (re_var 0 (pv 0)) (re_mod (re_ix (ix_all hu1) rr_ix (re_var 1 (pv 1)) (re_int) (fun _ _ => rfl)) (re_callB rl_len call_lenA rfl G.len (by decide +kernel) (ra_cons (re_var 0 (pv 0)) (ra_nil)))) (fun _ _ => rfl))) (rss_cons (rs_setIx hu1 (re_var 1 (pv 1)) (re_int) (re_add (re_ix (ix_all hu1) rr_ix (re_var 1 (pv 1)) (re_int) (fun _ _ => rfl)) (re_int))) (rss_one (rs_ret (re_mod (re_callTy rl_int1 call_int1 rfl G.int (by decide +kernel) (ra_cons (re_var 3 (pv 3)) (ra_nil))) (re_var 2 (pv 2))))))
def nm__law_two : List Str := ["word", "width", "one", "other", "limit"]
theorem sc__law_two : FnScope nm__law_two ["word", "width", "one", "other"] (defScope (top 70)) := ⟨rfl, rfl, rfl, by decide +kernel, rfl, by decide +kernel, by decide +kernel⟩
theorem d__law_two (G : Gb K w mg) (T : Top K mg "_law_two" (top 70)) {sp : DSp} (len : ∀ ds M Q E, sp ds M Q E → ds.length = 4)
    (hq : ∀ ds M Q E, sp ds M Q E → b__law_two { nx := fun _ M' => Q .non M', rt := Q } (startD 5 ds) M) : Cal P w K mg base (k + 1) "_law_two" ["word", "width", "one", "other"] sp := by
  refine cal_mk (N := nm__law_two) T sc__law_two (fun _ _ _ _ _ _ us hl => match us, hl with | [_, _, _, _], _ => rfl) (fun f cdv A outer s H E hr => ?_) len hq
  have hu := hu66 hr
  have hu1 := hu_of hr
  exact rss_cons (rs_set (i := 4) sc__law_two.nd rfl (by first | exact .inl rfl | exact .inr rfl) (re_shl (re_int) (re_var 1 (pv 1)))) (rss_cons (rs_if (rt_cmp (op_eqA hu) (rr_eq) (re_var 0 (pv 0)) (re_str) (nomark _)) (rss_one (rs_ret (re_band (re_var 2 (pv 2)) (re_var 3 (pv 3))))) (rss_nil)) (rss_cons (rs_if (rt_cmp (op_eqA hu) (rr_eq) (re_var 0 (pv 0)) (re_str) (nomark _)) (rss_one (rs_ret (re_bor (re_var 2 (pv 2)) (re_var 3 (pv 3))))) (rss_nil)) (rss_cons (rs_if (rt_cmp (op_eqA hu) (rr_eq) (re_var 0 (pv 0)) (re_str) (nomark _)) (rss_one (rs_ret (re_bxor (re_var 2 (pv 2)) (re_var 3 (pv 3))))) (rss_nil)) (rss_cons (rs_if (rt_cmp (op_eqA hu) (rr_eq) (re_var 0 (pv 0)) (re_str) (nomark _)) (rss_one (rs_ret (re_mod (re_callTy rl_int1 call_int1 rfl G.int (by decide +kernel) (ra_cons (re_add (re_var 2 (pv 2)) (re_var 3 (pv 3))) (ra_nil))) (re_var 4 (pv 4))))) (rss_nil)) (rss_cons (rs_if (rt_cmp (op_eqA hu) (rr_eq) (re_var 0 (pv 0)) (re_str) (nomark _)) (rss_one (rs_ret (re_mod (re_callTy rl_int1 call_int1 rfl G.int (by decide +kernel) (ra_cons (re_sub (re_var 2 (pv 2)) (re_var 3 (pv 3))) (ra_nil))) (re_var 4 (pv 4))))) (rss_nil)) (rss_cons (rs_if (rt_cmp (op_eqA hu) (rr_eq) (re_var 0 (pv 0)) (re_str) (nomark _)) (rss_one (rs_ret (re_mod (re_callTy rl_int1 call_int1 rfl G.int (by decide +kernel) (ra_cons (re_mul (re_var 2 (pv 2)) (re_var 3 (pv 3))) (ra_nil))) (re_var 4 (pv 4))))) (rss_nil)) (rss_cons (rs_if (rt_cmp (op_eqA hu) (rr_eq) (re_var 0 (pv 0)) (re_str) (nomark _)) (rss_one (rs_ret (re_mod (re_callTy rl_int1 call_int1 rfl G.int (by decide +kernel) (ra_cons (re_shl (re_var 2 (pv 2)) (re_var 3 (pv 3))) (ra_nil))) (re_var 4 (pv 4))))) (rss_nil)) (rss_cons (rs_if (rt_cmp (op_eqA hu) (rr_eq) (re_var 0 (pv 0)) (re_str) (nomark _)) (rss_one (rs_ret (re_shr (re_var 2 (pv 2)) (re_var 3 (pv 3))))) (rss_nil)) (rss_cons (rs_if (rt_cmp (op_eqA hu) (rr_eq) (re_var 0 (pv 0)) (re_str) (nomark _)) (rss_one (rs_ret (re_callTy rl_int1 call_int1 rfl G.int (by decide +kernel) (ra_cons (re_cmp (op_eqA hu) (rr_eq) (re_var 2 (pv 2)) (re_var 3 (pv 3)) (nomark _)) (ra_nil))))) (rss_nil)) (rss_cons (rs_if (rt_cmp (op_eqA hu) (rr_eq) (re_var 0 (pv 0)) (re_str) (nomark _)) (rss_one (rs_ret (re_callTy rl_int1 call_int1 rfl G.int (by decide +kernel) (ra_cons (re_cmp (op_lt) (rr_lt) (re_var 2 (pv 2)) (re_var 3 (pv 3)) (nomark _)) (ra_nil))))) (rss_nil)) (rss_one (rs_ret (re_callTy rl_int1 call_int1 rfl G.int (by decide +kernel) (ra_cons (re_cmp (op_lt) (rr_lt) (re_mod (re_callTy rl_int1 call_int1 rfl G.int (by decide +kernel) (ra_cons (re_add (re_var 2 (pv 2)) (re_fdiv (re_var 4 (pv 4)) (re_int))) (ra_nil))) (re_var 4 (pv 4))) (re_mod (re_callTy rl_int1 call_int1 rfl G.int (by decide +kernel) (ra_cons (re_add (re_var 3 (pv 3)) (re_fdiv (re_var 4 (pv 4)) (re_int))) (ra_nil))) (re_var 4 (pv 4))) (nomark _)) (ra_nil)))))))))))))))
def nm__law_value : List Str := ["formula", "width", "env", "parts", "part"]
theorem sc__law_value : FnScope nm__law_value ["formula", "width", "env"] (defScope (top 71)) := ⟨rfl, rfl, rfl, by decide +kernel, rfl, by decide +kernel, by decide +kernel⟩
theorem d__law_value {s__law_value s__law_two : DSp} (G : Gb K w mg) (C__law_value : Cal P w K mg base k "_law_value" ["formula", "width", "env"] s__law_value) (C__law_two : Cal P w K mg base k "_law_two" ["word", "width", "one", "other"] s__law_two) (T : Top K mg "_law_value" (top 71)) {sp : DSp} (len : ∀ ds M Q E, sp ds M Q E → ds.length = 3)
    (hq : ∀ ds M Q E, sp ds M Q E → b__law_value s__law_value s__law_two { nx := fun _ M' => Q .non M', rt := Q } (startD 5 ds) M) : Cal P w K mg base (k + 1) "_law_value" ["formula", "width", "env"] sp := by
  refine cal_mk (N := nm__law_value) T sc__law_value (fun _ _ _ _ _ _ us hl => match us, hl with | [_, _, _], _ => rfl) (fun f cdv A outer s H E hr => ?_) len hq
  have hu := hu66 hr
  have hu1 := hu_of hr
  exact rss_cons (rs_if (rt_val (re_isi .int (re_var 0 (pv 0)) (pe_ty .int G.int) rfl G.isinstance)) (rss_one (rs_ret (re_var 0 (pv 0)))) (rss_nil)) (rss_cons (rs_if (rt_val (re_isi .str (re_var 0 (pv 0)) (pe_ty .str G.str) rfl G.isinstance)) (rss_one (rs_ret (re_ix (ix_all hu1) rr_ix (re_var 2 (pv 2)) (re_var 0 (pv 0)) (fun _ _ => rfl)))) (rss_nil)) (rss_cons (rs_setLc (i := 3) (own := [("part", 4)]) rfl sc__law_value.nd rfl rfl (sw_true rfl rfl rfl (by decide +kernel)) (ri_val (re_slice (re_var 0 (pv 0)) (ro_some (re_int)) ro_none)) (blkOk_by (own := [("part", 4)]) (N := nm__law_value) (sc := defScope (top 71)) (by decide +kernel)) (by decide) (fun _ _ _ _ _ => (ptg_name (pg_name (i := 4) sc__law_value.nd rfl (by first | exact .inl rfl | exact .inr rfl)))) (fun _ _ _ _ _ => rts_nil) (fun _ _ _ _ _ => re_cal C__law_value hr (ra_cons (re_var 4 (pv 4)) (ra_cons (re_var 1 (pv 1)) (ra_cons (re_var 2 (pv 2)) (ra_nil)))))) (rss_cons (rs_if (rt_cmp (op_eqA hu) (rr_eq) (re_ix (ix_all hu1) rr_ix (re_var 0 (pv 0)) (re_int) (fun _ _ => rfl)) (re_str) (nomark _)) (rss_one (rs_ret (re_sub (re_sub (re_shl (re_int) (re_var 1 (pv 1))) (re_int)) (re_ix (ix_all hu1) rr_ix (re_var 3 (pv 3)) (re_int) (fun _ _ => rfl))))) (rss_nil)) (rss_cons (rs_if (rt_cmp (op_eqA hu) (rr_eq) (re_ix (ix_all hu1) rr_ix (re_var 0 (pv 0)) (re_int) (fun _ _ => rfl)) (re_str) (nomark _)) (rss_one (rs_ret (re_mod (re_callTy rl_int1 call_int1 rfl G.int (by decide +kernel) (ra_cons (re_sub (re_int) (re_ix (ix_all hu1) rr_ix (re_var 3 (pv 3)) (re_int) (fun _ _ => rfl))) (ra_nil))) (re_shl (re_int) (re_var 1 (pv 1)))))) (rss_nil)) (rss_cons (rs_if (rt_cmp (op_eqA hu) (rr_eq) (re_ix (ix_all hu1) rr_ix (re_var 0 (pv 0)) (re_int) (fun _ _ => rfl)) (re_str) (nomark _)) (rss_one (rs_ret (re_ix (ix_all hu1) rr_ix (re_var 3 (pv 3)) (re_add (re_int) (re_callTy rl_int1 call_int1 rfl G.int (by decide +kernel) (ra_cons (re_cmp (op_eqA hu) (rr_eq) (re_ix (ix_all hu1) rr_ix (re_var 3 (pv 3)) (re_int) (fun _ _ => rfl)) (re_int) (nomark _)) (ra_nil)))) (fun _ _ => rfl)))) (rss_nil)) (rss_one (rs_ret (re_cal C__law_two hr (ra_cons (re_ix (ix_all hu1) rr_ix (re_var 0 (pv 0)) (re_int) (fun _ _ => rfl)) (ra_cons (re_var 1 (pv 1)) (ra_cons (re_ix (ix_all hu1) rr_ix (re_var 3 (pv 3)) (re_int) (fun _ _ => rfl)) (ra_cons (re_ix (ix_all hu1) rr_ix (re_var 3 (pv 3)) (re_int) (fun _ _ => rfl)) (ra_nil)))))))))))))
def nm__law_names : List Str := ["formula", "found", "part"]
theorem sc__law_names : FnScope nm__law_names ["formula"] (defScope (top 72)) := ⟨rfl, rfl, rfl, by decide +kernel, rfl, by decide +kernel, by decide +kernel⟩
theorem d__law_names {s__law_names : DSp} (G : Gb K w mg) (C__law_names : Cal P w K mg base k "_law_names" ["formula"] s__law_names) (T : Top K mg "_law_names" (top 72)) {sp : DSp} (len : ∀ ds M Q E, sp ds M Q E → ds.length = 1)
    (hq : ∀ ds M Q E, sp ds M Q E → b__law_names_v2 s__law_names { nx := fun _ M' => Q .non M', rt := Q } (startD 3 ds) M) : Cal P w K mg base (k + 1) "_law_names" ["formula"] sp := by
  refine cal_mk (N := nm__law_names) T sc__law_names (fun _ _ _ _ _ _ us hl => match us, hl with | [_], _ => rfl) (fun f cdv A outer s H E hr => ?_) len hq
  have hu := hu66 hr
  have hu1 := hu_of hr
  exact rss_cons (rs_if (rt_val (re_isi .str (re_var 0 (pv 0)) (pe_ty .str G.str) rfl G.isinstance)) (rss_one (rs_ret (re_lst (ra_cons (re_var 0 (pv 0)) (ra_nil))))) (rss_nil)) (rss_cons (rs_set (i := 1) sc__law_names.nd rfl (by first | exact .inl rfl | exact .inr rfl) (re_lst (ra_nil))) (rss_cons (rs_if (rt_val (re_isi .tup (re_var 0 (pv 0)) (pe_ty .tup G.tuple) rfl G.isinstance)) (rss_one (rs_for PassesOwn.never rfl (ri_val (re_slice (re_var 0 (pv 0)) (ro_some (re_int)) ro_none)) (ptg_name (pg_name (i := 2) sc__law_names.nd rfl (by first | exact .inl rfl | exact .inr rfl))) (rss_one (rs_set (i := 1) sc__law_names.nd rfl (by first | exact .inl rfl | exact .inr rfl) (re_add (re_var 1 (pv 1)) (re_cal C__law_names hr (ra_cons (re_var 2 (pv 2)) (ra_nil)))))))) (rss_nil)) (rss_one (rs_ret (re_var 1 (pv 1))))))
def nm__law_formula : List Str := ["numbers", "cursor", "width", "kind", "words", "word", "number"]
theorem sc__law_formula : FnScope nm__law_formula ["numbers", "cursor", "width"] (defScope (top 73)) := ⟨rfl, rfl, rfl, by decide +kernel, rfl, by decide +kernel, by decide +kernel⟩
theorem d__law_formula {s__law_take : DSp} (G : Gb K w mg) (C__law_take : Cal P w K mg base k "_law_take" ["numbers", "cursor", "many"] s__law_take) (T : Top K mg "_law_formula" (top 73)) {sp : DSp} (len : ∀ ds M Q E, sp ds M Q E → ds.length = 3)
    (hq : ∀ ds M Q E, sp ds M Q E → b__law_formula_v3 s__law_take { nx := fun _ M' => Q .non M', rt := Q } (startD 7 ds) M) : Cal P w K mg base (k + 1) "_law_formula" ["numbers", "cursor", "width"] sp := by
  refine cal_mk (N := nm__law_formula) T sc__law_formula (fun _ _ _ _ _ _ us hl => match us, hl with | [_, _, _], _ => rfl) (fun f cdv A outer s H E hr => ?_) len hq
  have hu := hu66 hr
  have hu1 := hu_of hr
  exact rss_cons (rs_set (i := 3) sc__law_formula.nd rfl (by first | exact .inl rfl | exact .inr rfl) (re_cal C__law_take hr (ra_cons (re_var 0 (pv 0)) (ra_cons (re_var 1 (pv 1)) (ra_cons (re_int) (ra_nil)))))) (rss_cons (rs_set (i := 4) sc__law_formula.nd rfl (by first | exact .inl rfl | exact .inr rfl) (re_lst (ra_cons (re_str) (ra_cons (re_str) (ra_cons (re_str) (ra_cons (re_str) (ra_cons (re_str) (ra_cons (re_str) (ra_cons (re_str) (ra_cons (re_str) (ra_cons (re_str) (ra_cons (re_str) (ra_cons (re_str) (ra_nil)))))))))))))) (rss_cons (rs_set (i := 5) sc__law_formula.nd rfl (by first | exact .inl rfl | exact .inr rfl) (re_ix (ix_all hu1) rr_ix (re_var 4 (pv 4)) (re_cal C__law_take hr (ra_cons (re_var 0 (pv 0)) (ra_cons (re_var 1 (pv 1)) (ra_cons (re_int) (ra_nil))))) (fun _ _ => rfl))) (rss_cons (rs_set (i := 6) sc__law_formula.nd rfl (by first | exact .inl rfl | exact .inr rfl) (re_cal C__law_take hr (ra_cons (re_var 0 (pv 0)) (ra_cons (re_var 1 (pv 1)) (ra_cons (re_shl (re_int) (re_var 2 (pv 2))) (ra_nil)))))) (rss_cons (rs_if (rt_cmp (op_lt) (rr_lt) (re_var 3 (pv 3)) (re_int) (nomark _)) (rss_one (rs_ret (re_tup (ra_cons (re_var 5 (pv 5)) (ra_cons (re_str) (ra_cons (re_str) (ra_nil))))))) (rss_nil)) (rss_cons (rs_if (rt_cmp (op_eqA hu) (rr_eq) (re_var 3 (pv 3)) (re_int) (nomark _)) (rss_one (rs_ret (re_ix (ix_all hu1) rr_ix (re_lst (ra_cons (re_str) (ra_cons (re_tup (ra_cons (re_str) (ra_cons (re_str) (ra_nil)))) (ra_cons (re_tup (ra_cons (re_str) (ra_cons (re_str) (ra_nil)))) (ra_nil))))) (re_mod (re_callTy rl_int1 call_int1 rfl G.int (by decide +kernel) (ra_cons (re_var 6 (pv 6)) (ra_nil))) (re_int)) (fun _ _ => rfl)))) (rss_nil)) (rss_cons (rs_if (rt_cmp (op_lt) (rr_lt) (re_var 3 (pv 3)) (re_int) (nomark _)) (rss_one (rs_ret (re_tup (ra_cons (re_var 5 (pv 5)) (ra_cons (re_str) (ra_cons (re_str) (ra_nil))))))) (rss_nil)) (rss_cons (rs_if (rt_cmp (op_eqA hu) (rr_eq) (re_var 3 (pv 3)) (re_int) (nomark _)) (rss_one (rs_ret (re_ix (ix_all hu1) rr_ix (re_lst (ra_cons (re_str) (ra_cons (re_tup (ra_cons (re_str) (ra_cons (re_str) (ra_nil)))) (ra_cons (re_tup (ra_cons (re_str) (ra_cons (re_str) (ra_nil)))) (ra_cons (re_tup (ra_cons (re_var 5 (pv 5)) (ra_cons (re_str) (ra_cons (re_var 6 (pv 6)) (ra_nil))))) (ra_nil)))))) (re_cal C__law_take hr (ra_cons (re_var 0 (pv 0)) (ra_cons (re_var 1 (pv 1)) (ra_cons (re_int) (ra_nil))))) (fun _ _ => rfl)))) (rss_nil)) (rss_cons (rs_if (rt_cmp (op_eqA hu) (rr_eq) (re_var 3 (pv 3)) (re_int) (nomark _)) (rss_one (rs_ret (re_tup (ra_cons (re_var 5 (pv 5)) (ra_cons (re_tup (ra_cons (re_str) (ra_cons (re_str) (ra_cons (re_str) (ra_nil))))) (ra_cons (re_var 6 (pv 6)) (ra_nil))))))) (rss_nil)) (rss_one (rs_ret (re_ix (ix_all hu1) rr_ix (re_lst (ra_cons (re_tup (ra_cons (re_str) (ra_cons (re_str) (ra_cons (re_str) (ra_cons (re_str) (ra_nil)))))) (ra_cons (re_tup (ra_cons (re_var 5 (pv 5)) (ra_cons (re_str) (ra_cons (re_tup (ra_cons (re_str) (ra_cons (re_str) (ra_cons (re_str) (ra_nil))))) (ra_nil))))) (ra_cons (re_var 6 (pv 6)) (ra_nil))))) (re_cal C__law_take hr (ra_cons (re_var 0 (pv 0)) (ra_cons (re_var 1 (pv 1)) (ra_cons (re_int) (ra_nil))))) (fun _ _ => rfl))))))))))))
def nm__law_book : List Str := ["numbers", "cursor", "width", "registers", "words", "word", "count", "plain", "base", "deeds", "k", "formula", "price"]
theorem sc__law_book : FnScope nm__law_book ["numbers", "cursor"] (defScope (top 74)) := ⟨rfl, rfl, rfl, by decide +kernel, rfl, by decide +kernel, by decide +kernel⟩
theorem d__law_book {s__law_take s__law_formula s__law_names : DSp} (G : Gb K w mg) (C__law_take : Cal P w K mg base k "_law_take" ["numbers", "cursor", "many"] s__law_take) (C__law_formula : Cal P w K mg base k "_law_formula" ["numbers", "cursor", "width"] s__law_formula) (C__law_names : Cal P w K mg base k "_law_names" ["formula"] s__law_names) (T : Top K mg "_law_book" (top 74)) {sp : DSp} (len : ∀ ds M Q E, sp ds M Q E → ds.length = 2)
    (hq : ∀ ds M Q E, sp ds M Q E → b__law_book_v2 s__law_take s__law_formula s__law_names { nx := fun _ M' => Q .non M', rt := Q } (startD 13 ds) M) : Cal P w K mg base (k + 1) "_law_book" ["numbers", "cursor"] sp := by
  refine cal_mk (N := nm__law_book) T sc__law_book (fun _ _ _ _ _ _ us hl => match us, hl with | [_, _], _ => rfl) (fun f cdv A outer s H E hr => ?_) len hq
  have hu := hu66 hr
  have hu1 := hu_of hr
  exact rss_cons (rs_set (i := 2) sc__law_book.nd rfl (by first | exact .inl rfl | exact .inr rfl) (re_add (re_int) (re_cal C__law_take hr (ra_cons (re_var 0 (pv 0)) (ra_cons (re_var 1 (pv 1)) (ra_cons (re_int) (ra_nil))))))) (rss_cons (rs_set (i := 3) sc__law_book.nd rfl (by first | exact .inl rfl | exact .inr rfl) (re_add (re_int) (re_cal C__law_take hr (ra_cons (re_var 0 (pv 0)) (ra_cons (re_var 1 (pv 1)) (ra_cons (re_callB rl_min2 (call_min2 rfl) rfl G.min (by decide +kernel) (ra_cons (re_int) (ra_cons (re_fdiv (re_int) (re_var 2 (pv 2))) (ra_nil)))) (ra_nil))))))) (rss_cons (rs_set (i := 4) sc__law_book.nd rfl (by first | exact .inl rfl | exact .inr rfl) (re_slice (re_lc (own := [("word", 5)]) rfl sc__law_book.nd (ri_rng1 rfl G.range (ra_cons (re_shl (re_int) (re_var 2 (pv 2))) (ra_nil))) (blkOk_by (own := [("word", 5)]) (N := nm__law_book) (sc := defScope (top 74)) (by decide +kernel)) (by decide) (fun _ _ _ _ _ => (ptg_name (pg_name (i := 5) sc__law_book.nd rfl (by first | exact .inl rfl | exact .inr rfl)))) (fun _ _ _ _ _ => rts_one (rt_cmp (op_eqA hu) (rr_eq) (re_cal C__law_take hr (ra_cons (re_var 0 (pv 0)) (ra_cons (re_var 1 (pv 1)) (ra_cons (re_int) (ra_nil))))) (re_int) (nomark _))) (fun _ _ _ _ _ => re_var 5 (pv 5))) ro_none (ro_some (re_int)))) (rss_cons (rs_set (i := 6) sc__law_book.nd rfl (by first | exact .inl rfl | exact .inr rfl) (re_add (re_int) (re_cal C__law_take hr (ra_cons (re_var 0 (pv 0)) (ra_cons (re_var 1 (pv 1)) (ra_cons (re_int) (ra_nil))))))) (rss_cons (rs_set (i := 7) sc__law_book.nd rfl (by first | exact .inl rfl | exact .inr rfl) (re_cal C__law_take hr (ra_cons (re_var 0 (pv 0)) (ra_cons (re_var 1 (pv 1)) (ra_cons (re_var 6 (pv 6)) (ra_nil)))))) (rss_cons (rs_set (i := 8) sc__law_book.nd rfl (by first | exact .inl rfl | exact .inr rfl) (re_cal C__law_take hr (ra_cons (re_var 0 (pv 0)) (ra_cons (re_var 1 (pv 1)) (ra_cons (re_int) (ra_nil)))))) (rss_cons (rs_set (i := 9) sc__law_book.nd rfl (by first | exact .inl rfl | exact .inr rfl) (re_lst (ra_nil))) (rss_cons (rs_for PassesOwn.never rfl (ri_rng1 rfl G.range (ra_cons (re_var 6 (pv 6)) (ra_nil))) (ptg_name (pg_name (i := 10) sc__law_book.nd rfl (by first | exact .inl rfl | exact .inr rfl))) (rss_cons (rs_set (i := 11) sc__law_book.nd rfl (by first | exact .inl rfl | exact .inr rfl) (re_cal C__law_formula hr (ra_cons (re_var 0 (pv 0)) (ra_cons (re_var 1 (pv 1)) (ra_cons (re_var 2 (pv 2)) (ra_nil)))))) (rss_cons (rs_if (PW.pt (rw_and (rt_cmp (op_eqA hu) (rr_eq) (re_var 10 (pv 10)) (re_var 7 (pv 7)) (nomark _)) (rw_and1 (rt_cmp (op_inA hu1) (rr_in (neg := false)) (re_str) (re_cal C__law_names hr (ra_cons (re_var 11 (pv 11)) (ra_nil))) rfl)))) (rss_one (rs_set (i := 11) sc__law_book.nd rfl (by first | exact .inl rfl | exact .inr rfl) (re_ix (ix_all hu1) rr_ix (re_lst (ra_cons (re_tup (ra_cons (re_str) (ra_cons (re_str) (ra_nil)))) (ra_cons (re_tup (ra_cons (re_str) (ra_cons (re_str) (ra_cons (re_str) (ra_nil))))) (ra_cons (re_int) (ra_nil))))) (re_cal C__law_take hr (ra_cons (re_var 0 (pv 0)) (ra_cons (re_var 1 (pv 1)) (ra_cons (re_int) (ra_nil))))) (fun _ _ => rfl)))) (rss_nil)) (rss_cons (rs_set (i := 12) sc__law_book.nd rfl (by first | exact .inl rfl | exact .inr rfl) (re_add (re_int) (re_cal C__law_take hr (ra_cons (re_var 0 (pv 0)) (ra_cons (re_var 1 (pv 1)) (ra_cons (re_int) (ra_nil))))))) (rss_one (rs_expr (re_append (re_var 9 (pv 9)) (re_tup (ra_cons (re_ix (ix_all hu1) rr_ix (re_lst (ra_cons (re_str) (ra_cons (re_str) (ra_cons (re_str) (ra_cons (re_str) (ra_cons (re_str) (ra_cons (re_str) (ra_nil)))))))) (re_mod (re_add (re_var 10 (pv 10)) (re_var 8 (pv 8))) (re_int)) (fun _ _ => rfl)) (ra_cons (re_var 12 (pv 12)) (ra_cons (re_var 11 (pv 11)) (ra_nil)))))))))))) (rss_one (rs_ret (re_lst (ra_cons (re_var 2 (pv 2)) (ra_cons (re_var 3 (pv 3)) (ra_cons (re_var 4 (pv 4)) (ra_cons (re_var 9 (pv 9)) (ra_nil)))))))))))))))
def nm__law_rows : List Str := ["words", "many", "rows", "k", "longer", "row", "word"]
theorem sc__law_rows : FnScope nm__law_rows ["words", "many"] (defScope (top 75)) := ⟨rfl, rfl, rfl, by decide +kernel, rfl, by decide +kernel, by decide +kernel⟩
theorem d__law_rows (G : Gb K w mg) (T : Top K mg "_law_rows" (top 75)) {sp : DSp} (len : ∀ ds M Q E, sp ds M Q E → ds.length = 2)
    (hq : ∀ ds M Q E, sp ds M Q E → b__law_rows_v3 { nx := fun _ M' => Q .non M', rt := Q } (startD 7 ds) M) : Cal P w K mg base (k + 1) "_law_rows" ["words", "many"] sp := by
  refine cal_mk (N := nm__law_rows) T sc__law_rows (fun _ _ _ _ _ _ us hl => match us, hl with | [_, _], _ => rfl) (fun f cdv A outer s H E hr => ?_) len hq
  have hu := hu66 hr
  have hu1 := hu_of hr
  exact rss_cons (rs_set (i := 2) sc__law_rows.nd rfl (by first | exact .inl rfl | exact .inr rfl) (re_lst (ra_cons (re_tup (ra_nil)) (ra_nil)))) (rss_cons (rs_for PassesOwn.never rfl (ri_rng1 rfl G.range (ra_cons (re_var 1 (pv 1)) (ra_nil))) (ptg_name (pg_name (i := 3) sc__law_rows.nd rfl (by first | exact .inl rfl | exact .inr rfl))) (rss_cons (rs_set (i := 4) sc__law_rows.nd rfl (by first | exact .inl rfl | exact .inr rfl) (re_lst (ra_nil))) (rss_cons (rs_for PassesOwn.never rfl (ri_val (re_var 2 (pv 2))) (ptg_name (pg_name (i := 5) sc__law_rows.nd rfl (by first | exact .inl rfl | exact .inr rfl))) (rss_one (rs_for PassesOwn.never rfl (ri_val (re_var 0 (pv 0))) (ptg_name (pg_name (i := 6) sc__law_rows.nd rfl (by first | exact .inl rfl | exact .inr rfl))) (rss_one (rs_expr (re_append (re_var 4 (pv 4)) (re_add (re_var 5 (pv 5)) (re_tup (ra_cons (re_var 6 (pv 6)) (ra_nil)))))))))) (rss_one (rs_set (i := 2) sc__law_rows.nd rfl (by first | exact .inl rfl | exact .inr rfl) (re_var 4 (pv 4))))))) (rss_one (rs_ret (re_var 2 (pv 2)))))
def nm__law_steps : List Str := ["data", "registers", "found", "name", "price", "formula", "names", "words", "row", "word", "target"]
theorem sc__law_steps : FnScope nm__law_steps ["data", "registers"] (defScope (top 76)) := ⟨rfl, rfl, rfl, by decide +kernel, rfl, by decide +kernel, by decide +kernel⟩
theorem d__law_steps {s__law_names s__law_rows : DSp} (G : Gb K w mg) (C__law_names : Cal P w K mg base k "_law_names" ["formula"] s__law_names) (C__law_rows : Cal P w K mg base k "_law_rows" ["words", "many"] s__law_rows) (T : Top K mg "_law_steps" (top 76)) {sp : DSp} (len : ∀ ds M Q E, sp ds M Q E → ds.length = 2)
    (hq : ∀ ds M Q E, sp ds M Q E → b__law_steps_v2 s__law_names s__law_rows { nx := fun _ M' => Q .non M', rt := Q } (startD 11 ds) M) : Cal P w K mg base (k + 1) "_law_steps" ["data", "registers"] sp := by
  refine cal_mk (N := nm__law_steps) T sc__law_steps (fun _ _ _ _ _ _ us hl => match us, hl with | [_, _], _ => rfl) (fun f cdv A outer s H E hr => ?_) len hq
  have hu := hu66 hr
  have hu1 := hu_of hr
  exact rss_cons (rs_set (i := 2) sc__law_steps.nd rfl (by first | exact .inl rfl | exact .inr rfl) (re_lst (ra_nil))) (rss_cons (rs_for PassesOwn.never rfl (ri_val (re_ix (ix_all hu1) rr_ix (re_var 0 (pv 0)) (re_int) (fun _ _ => rfl))) (ptg_tup (is := [3, 4, 5]) rfl (pgs_cons (pg_name (i := 3) sc__law_steps.nd rfl (by first | exact .inl rfl | exact .inr rfl)) (pgs_cons (pg_name (i := 4) sc__law_steps.nd rfl (by first | exact .inl rfl | exact .inr rfl)) (pgs_cons (pg_name (i := 5) sc__law_steps.nd rfl (by first | exact .inl rfl | exact .inr rfl)) (pgs_nil)))) rfl) (rss_cons (rs_set (i := 6) sc__law_steps.nd rfl (by first | exact .inl rfl | exact .inr rfl) (re_cal C__law_names hr (ra_cons (re_var 5 (pv 5)) (ra_nil)))) (rss_cons (rs_set (i := 7) sc__law_steps.nd rfl (by first | exact .inl rfl | exact .inr rfl) (re_lst (ra_cons (re_non) (ra_nil)))) (rss_cons (rs_if (rt_cmp (op_inA hu1) (rr_in (neg := false)) (re_str) (re_var 6 (pv 6)) rfl) (rss_one (rs_set (i := 7) sc__law_steps.nd rfl (by first | exact .inl rfl | exact .inr rfl) (re_ix (ix_all hu1) rr_ix (re_var 0 (pv 0)) (re_int) (fun _ _ => rfl)))) (rss_nil)) (rss_one (rs_for PassesOwn.never rfl (ri_val (re_cal C__law_rows hr (ra_cons (re_lstRg rfl (re_var 1 (pv 1)) rfl G.list rfl G.range) (ra_cons (re_add (re_callTy rl_int1 call_int1 rfl G.int (by decide +kernel) (ra_cons (re_cmp (op_inA hu1) (rr_in (neg := false)) (re_str) (re_var 6 (pv 6)) rfl) (ra_nil))) (re_callTy rl_int1 call_int1 rfl G.int (by decide +kernel) (ra_cons (re_cmp (op_inA hu1) (rr_in (neg := false)) (re_str) (re_var 6 (pv 6)) rfl) (ra_nil)))) (ra_nil))))) (ptg_name (pg_name (i := 8) sc__law_steps.nd rfl (by first | exact .inl rfl | exact .inr rfl))) (rss_one (rs_for PassesOwn.never rfl (ri_val (re_var 7 (pv 7))) (ptg_name (pg_name (i := 9) sc__law_steps.nd rfl (by first | exact .inl rfl | exact .inr rfl))) (rss_one (rs_for PassesOwn.never rfl (ri_rng1 rfl G.range (ra_cons (re_var 1 (pv 1)) (ra_nil))) (ptg_name (pg_name (i := 10) sc__law_steps.nd rfl (by first | exact .inl rfl | exact .inr rfl))) (rss_one (rs_expr (re_append (re_var 2 (pv 2)) (re_tup (ra_cons (re_var 3 (pv 3)) (ra_cons (re_var 8 (pv 8)) (ra_cons (re_var 9 (pv 9)) (ra_cons (re_var 10 (pv 10)) (ra_nil))))))))))))))))))) (rss_one (rs_ret (re_var 2 (pv 2)))))
def nm__law_deed : List Str := ["data", "name", "row"]
theorem sc__law_deed : FnScope nm__law_deed ["data", "name"] (defScope (top 77)) := ⟨rfl, rfl, rfl, by decide +kernel, rfl, by decide +kernel, by decide +kernel⟩
theorem d__law_deed (G : Gb K w mg) (T : Top K mg "_law_deed" (top 77)) {sp : DSp} (len : ∀ ds M Q E, sp ds M Q E → ds.length = 2)
    (hq : ∀ ds M Q E, sp ds M Q E → b__law_deed { nx := fun _ M' => Q .non M', rt := Q } (startD 3 ds) M) : Cal P w K mg base (k + 1) "_law_deed" ["data", "name"] sp := by
  refine cal_mk (N := nm__law_deed) T sc__law_deed (fun _ _ _ _ _ _ us hl => match us, hl with | [_, _], _ => rfl) (fun f cdv A outer s H E hr => ?_) len hq
  have hu := hu66 hr
  have hu1 := hu_of hr
  exact rss_cons (rs_for PassesOwn.never rfl (ri_val (re_ix (ix_all hu1) rr_ix (re_var 0 (pv 0)) (re_int) (fun _ _ => rfl))) (ptg_name (pg_name (i := 2) sc__law_deed.nd rfl (by first | exact .inl rfl | exact .inr rfl))) (rss_one (rs_if (rt_cmp (op_eqA hu) (rr_eq) (re_ix (ix_all hu1) rr_ix (re_var 2 (pv 2)) (re_int) (fun _ _ => rfl)) (re_var 1 (pv 1)) (nomark _)) (rss_one (rs_ret (re_var 2 (pv 2)))) (rss_nil)))) (rss_one (rs_ret (re_non)))
def nm__law_after : List Str := ["data", "step", "state", "env", "k", "word"]
theorem sc__law_after : FnScope nm__law_after ["data", "step", "state"] (defScope (top 78)) := ⟨rfl, rfl, rfl, by decide +kernel, rfl, by decide +kernel, by decide +kernel⟩
theorem d__law_after {s__law_value s__law_deed : DSp} (G : Gb K w mg) (C__law_value : Cal P w K mg base k "_law_value" ["formula", "width", "env"] s__law_value) (C__law_deed : Cal P w K mg base k "_law_deed" ["data", "name"] s__law_deed) (T : Top K mg "_law_after" (top 78)) {sp : DSp} (len : ∀ ds M Q E, sp ds M Q E → ds.length = 3)
    (hq : ∀ ds M Q E, sp ds M Q E → b__law_after s__law_value s__law_deed { nx := fun _ M' => Q .non M', rt := Q } (startD 6 ds) M) : Cal P w K mg base (k + 1) "_law_after" ["data", "step", "state"] sp := by
  refine cal_mk (N := nm__law_after) T sc__law_after (fun _ _ _ _ _ _ us hl => match us, hl with | [_, _, _], _ => rfl) (fun f cdv A outer s H E hr => ?_) len hq
  have hu := hu66 hr
  have hu1 := hu_of hr
  exact rss_cons (rs_set (i := 3) sc__law_after.nd rfl (by first | exact .inl rfl | exact .inr rfl) (re_disp (ps := [(dC (.str "k"), dOp oIx (dVar 1) (dC (.int 2)))]) (pps_cons (re_str) (re_ix (ix_all hu1) rr_ix (re_var 1 (pv 1)) (re_int) (fun _ _ => rfl)) (pps_nil)) (by rfl) (by rfl) (fun z => by cases z) (by decide))) (rss_cons (rs_for PassesOwn.never rfl (ri_rng1 rfl G.range (ra_cons (re_callB rl_len call_lenA rfl G.len (by decide +kernel) (ra_cons (re_ix (ix_all hu1) rr_ix (re_var 1 (pv 1)) (re_int) (fun _ _ => rfl)) (ra_nil))) (ra_nil))) (ptg_name (pg_name (i := 4) sc__law_after.nd rfl (by first | exact .inl rfl | exact .inr rfl))) (rss_one (rs_setIx hu1 (re_var 3 (pv 3)) (re_ix (ix_all hu1) rr_ix (re_str) (re_var 4 (pv 4)) (fun _ _ => rfl)) (re_ix (ix_all hu1) rr_ix (re_var 2 (pv 2)) (re_ix (ix_all hu1) rr_ix (re_ix (ix_all hu1) rr_ix (re_var 1 (pv 1)) (re_int) (fun _ _ => rfl)) (re_var 4 (pv 4)) (fun _ _ => rfl)) (fun _ _ => rfl))))) (rss_cons (rs_set (i := 5) sc__law_after.nd rfl (by first | exact .inl rfl | exact .inr rfl) (re_cal C__law_value hr (ra_cons (re_ix (ix_all hu1) rr_ix (re_cal C__law_deed hr (ra_cons (re_var 0 (pv 0)) (ra_cons (re_ix (ix_all hu1) rr_ix (re_var 1 (pv 1)) (re_int) (fun _ _ => rfl)) (ra_nil)))) (re_int) (fun _ _ => rfl)) (ra_cons (re_ix (ix_all hu1) rr_ix (re_var 0 (pv 0)) (re_int) (fun _ _ => rfl)) (ra_cons (re_var 3 (pv 3)) (ra_nil)))))) (rss_one (rs_ret (re_add (re_add (re_slice (re_var 2 (pv 2)) ro_none (ro_some (re_ix (ix_all hu1) rr_ix (re_var 1 (pv 1)) (re_int) (fun _ _ => rfl)))) (re_tup (ra_cons (re_var 5 (pv 5)) (ra_nil)))) (re_slice (re_var 2 (pv 2)) (ro_some (re_add (re_ix (ix_all hu1) rr_ix (re_var 1 (pv 1)) (re_int) (fun _ _ => rfl)) (re_int))) ro_none))))))
def nm__law_spoilt : List Str := ["numbers", "cursor", "data", "step", "kind"]
theorem sc__law_spoilt : FnScope nm__law_spoilt ["numbers", "cursor", "data", "step"] (defScope (top 79)) := ⟨rfl, rfl, rfl, by decide +kernel, rfl, by decide +kernel, by decide +kernel⟩
theorem d__law_spoilt {s__law_take : DSp} (G : Gb K w mg) (C__law_take : Cal P w K mg base k "_law_take" ["numbers", "cursor", "many"] s__law_take) (T : Top K mg "_law_spoilt" (top 79)) {sp : DSp} (len : ∀ ds M Q E, sp ds M Q E → ds.length = 4)
    (hq : ∀ ds M Q E, sp ds M Q E → b__law_spoilt_v3 s__law_take { nx := fun _ M' => Q .non M', rt := Q } (startD 5 ds) M) : Cal P w K mg base (k + 1) "_law_spoilt" ["numbers", "cursor", "data", "step"] sp := by
  refine cal_mk (N := nm__law_spoilt) T sc__law_spoilt (fun _ _ _ _ _ _ us hl => match us, hl with | [_, _, _, _], _ => rfl) (fun f cdv A outer s H E hr => ?_) len hq
  have hu := hu66 hr
  have hu1 := hu_of hr
  exact rss_cons (rs_set (i := 4) sc__law_spoilt.nd rfl (by first | exact .inl rfl | exact .inr rfl) (re_cal C__law_take hr (ra_cons (re_var 0 (pv 0)) (ra_cons (re_var 1 (pv 1)) (ra_cons (re_int) (ra_nil)))))) (rss_cons (rs_if (rt_cmp (op_eqA hu) (rr_eq) (re_var 4 (pv 4)) (re_int) (nomark _)) (rss_one (rs_ret (re_tup (ra_cons (re_str) (ra_cons (re_ix (ix_all hu1) rr_ix (re_var 3 (pv 3)) (re_int) (fun _ _ => rfl)) (ra_cons (re_ix (ix_all hu1) rr_ix (re_var 3 (pv 3)) (re_int) (fun _ _ => rfl)) (ra_cons (re_ix (ix_all hu1) rr_ix (re_var 3 (pv 3)) (re_int) (fun _ _ => rfl)) (ra_nil)))))))) (rss_nil)) (rss_cons (rs_if (rt_cmp (op_eqA hu) (rr_eq) (re_var 4 (pv 4)) (re_int) (nomark _)) (rss_one (rs_ret (re_tup (ra_cons (re_ix (ix_all hu1) rr_ix (re_var 3 (pv 3)) (re_int) (fun _ _ => rfl)) (ra_cons (re_ix (ix_all hu1) rr_ix (re_var 3 (pv 3)) (re_int) (fun _ _ => rfl)) (ra_cons (re_ix (ix_all hu1) rr_ix (re_var 3 (pv 3)) (re_int) (fun _ _ => rfl)) (ra_cons (re_ix (ix_all hu1) rr_ix (re_var 2 (pv 2)) (re_int) (fun _ _ => rfl)) (ra_nil)))))))) (rss_nil)) (rss_cons (rs_if (rt_cmp (op_eqA hu) (rr_eq) (re_var 4 (pv 4)) (re_int) (nomark _)) (rss_one (rs_ret (re_tup (ra_cons (re_ix (ix_all hu1) rr_ix (re_var 3 (pv 3)) (re_int) (fun _ _ => rfl)) (ra_cons (re_add (re_ix (ix_all hu1) rr_ix (re_var 3 (pv 3)) (re_int) (fun _ _ => rfl)) (re_tup (ra_cons (re_int) (ra_nil)))) (ra_cons (re_ix (ix_all hu1) rr_ix (re_var 3 (pv 3)) (re_int) (fun _ _ => rfl)) (ra_cons (re_ix (ix_all hu1) rr_ix (re_var 3 (pv 3)) (re_int) (fun _ _ => rfl)) (ra_nil)))))))) (rss_nil)) (rss_cons (rs_if (PW.pt (rw_and (rt_cmp (op_eqA hu) (rr_eq) (re_var 4 (pv 4)) (re_int) (nomark _)) (rw_and1 (rt_cmp (op_gt) (rr_gt) (re_callB rl_len call_lenA rfl G.len (by decide +kernel) (ra_cons (re_ix (ix_all hu1) rr_ix (re_var 3 (pv 3)) (re_int) (fun _ _ => rfl)) (ra_nil))) (re_int) (nomark _))))) (rss_one (rs_ret (re_tup (ra_cons (re_ix (ix_all hu1) rr_ix (re_var 3 (pv 3)) (re_int) (fun _ _ => rfl)) (ra_cons (re_add (re_slice (re_ix (ix_all hu1) rr_ix (re_var 3 (pv 3)) (re_int) (fun _ _ => rfl)) (ro_some (re_int)) ro_none) (re_tup (ra_cons (re_neg (re_int)) (ra_nil)))) (ra_cons (re_ix (ix_all hu1) rr_ix (re_var 3 (pv 3)) (re_int) (fun _ _ => rfl)) (ra_cons (re_ix (ix_all hu1) rr_ix (re_var 3 (pv 3)) (re_int) (fun _ _ => rfl)) (ra_nil)))))))) (rss_nil)) (rss_cons (rs_if (rt_cmp (op_isA) (rr_is (neg := false)) (re_ix (ix_all hu1) rr_ix (re_var 3 (pv 3)) (re_int) (fun _ _ => rfl)) (re_non) (nomark _)) (rss_one (rs_ret (re_tup (ra_cons (re_ix (ix_all hu1) rr_ix (re_var 3 (pv 3)) (re_int) (fun _ _ => rfl)) (ra_cons (re_ix (ix_all hu1) rr_ix (re_var 3 (pv 3)) (re_int) (fun _ _ => rfl)) (ra_cons (re_int) (ra_cons (re_ix (ix_all hu1) rr_ix (re_var 3 (pv 3)) (re_int) (fun _ _ => rfl)) (ra_nil)))))))) (rss_nil)) (rss_one (rs_ret (re_tup (ra_cons (re_ix (ix_all hu1) rr_ix (re_var 3 (pv 3)) (re_int) (fun _ _ => rfl)) (ra_cons (re_ix (ix_all hu1) rr_ix (re_var 3 (pv 3)) (re_int) (fun _ _ => rfl)) (ra_cons (re_non) (ra_cons (re_ix (ix_all hu1) rr_ix (re_var 3 (pv 3)) (re_int) (fun _ _ => rfl)) (ra_nil)))))))))))))
def nm__law_live : List Str := ["code", "ends", "found", "k", "step", "live", "register"]
theorem sc__law_live : FnScope nm__law_live ["code", "ends"] (defScope (top 80)) := ⟨rfl, rfl, rfl, by decide +kernel, rfl, by decide +kernel, by decide +kernel⟩
theorem d__law_live (G : Gb K w mg) (T : Top K mg "_law_live" (top 80)) {sp : DSp} (len : ∀ ds M Q E, sp ds M Q E → ds.length = 2)
    (hq : ∀ ds M Q E, sp ds M Q E → b__law_live { nx := fun _ M' => Q .non M', rt := Q } (startD 7 ds) M) : Cal P w K mg base (k + 1) "_law_live" ["code", "ends"] sp := by
  refine cal_mk (N := nm__law_live) T sc__law_live (fun _ _ _ _ _ _ us hl => match us, hl with | [_, _], _ => rfl) (fun f cdv A outer s H E hr => ?_) len hq
  have hu := hu66 hr
  have hu1 := hu_of hr
  exact rss_cons (rs_set (i := 2) sc__law_live.nd rfl (by first | exact .inl rfl | exact .inr rfl) (re_lst (ra_cons (re_callTy rl_tuple call_tuple_of rfl G.tuple (by decide +kernel) (ra_cons (re_var 1 (pv 1)) (ra_nil))) (ra_nil)))) (rss_cons (rs_for PassesOwn.never rfl (ri_rng1 rfl G.range (ra_cons (re_callB rl_len call_lenA rfl G.len (by decide +kernel) (ra_cons (re_var 0 (pv 0)) (ra_nil))) (ra_nil))) (ptg_name (pg_name (i := 3) sc__law_live.nd rfl (by first | exact .inl rfl | exact .inr rfl))) (rss_cons (rs_set (i := 4) sc__law_live.nd rfl (by first | exact .inl rfl | exact .inr rfl) (re_ix (ix_all hu1) rr_ix (re_var 0 (pv 0)) (re_sub (re_sub (re_callB rl_len call_lenA rfl G.len (by decide +kernel) (ra_cons (re_var 0 (pv 0)) (ra_nil))) (re_int)) (re_var 3 (pv 3))) (fun _ _ => rfl))) (rss_cons (rs_set (i := 5) sc__law_live.nd rfl (by first | exact .inl rfl | exact .inr rfl) (re_lst (ra_nil))) (rss_cons (rs_for PassesOwn.never rfl (ri_rng1 rfl G.range (ra_cons (re_int) (ra_nil))) (ptg_name (pg_name (i := 6) sc__law_live.nd rfl (by first | exact .inl rfl | exact .inr rfl))) (rss_one (rs_if (PW.pt (rw_or (rt_cmp (op_inA hu1) (rr_in (neg := false)) (re_var 6 (pv 6)) (re_ix (ix_all hu1) rr_ix (re_var 4 (pv 4)) (re_int) (fun _ _ => rfl)) rfl) (rw_or1 (PW.pt (rw_and (rt_cmp (op_inA hu1) (rr_in (neg := false)) (re_var 6 (pv 6)) (re_ix (ix_all hu1) rr_ix (re_var 2 (pv 2)) (re_int) (fun _ _ => rfl)) rfl) (rw_and1 (rt_cmp (op_neA hu) (rr_ne) (re_var 6 (pv 6)) (re_ix (ix_all hu1) rr_ix (re_var 4 (pv 4)) (re_int) (fun _ _ => rfl)) (nomark _)))))))) (rss_one (rs_expr (re_append (re_var 5 (pv 5)) (re_var 6 (pv 6))))) (rss_nil)))) (rss_one (rs_set (i := 2) sc__law_live.nd rfl (by first | exact .inl rfl | exact .inr rfl) (re_add (re_lst (ra_cons (re_callTy rl_tuple call_tuple_of rfl G.tuple (by decide +kernel) (ra_cons (re_var 5 (pv 5)) (ra_nil))) (ra_nil))) (re_var 2 (pv 2))))))))) (rss_one (rs_ret (re_var 2 (pv 2)))))
def nm__law_windows : List Str := ["many", "size", "found", "at", "length"]
theorem sc__law_windows : FnScope nm__law_windows ["many", "size"] (defScope (top 81)) := ⟨rfl, rfl, rfl, by decide +kernel, rfl, by decide +kernel, by decide +kernel⟩
theorem d__law_windows (G : Gb K w mg) (T : Top K mg "_law_windows" (top 81)) {sp : DSp} (len : ∀ ds M Q E, sp ds M Q E → ds.length = 2)
    (hq : ∀ ds M Q E, sp ds M Q E → b__law_windows { nx := fun _ M' => Q .non M', rt := Q } (startD 5 ds) M) : Cal P w K mg base (k + 1) "_law_windows" ["many", "size"] sp := by
  refine cal_mk (N := nm__law_windows) T sc__law_windows (fun _ _ _ _ _ _ us hl => match us, hl with | [_, _], _ => rfl) (fun f cdv A outer s H E hr => ?_) len hq
  have hu := hu66 hr
  have hu1 := hu_of hr
  exact rss_cons (rs_set (i := 2) sc__law_windows.nd rfl (by first | exact .inl rfl | exact .inr rfl) (re_lst (ra_nil))) (rss_cons (rs_for PassesOwn.never rfl (ri_rng1 rfl G.range (ra_cons (re_var 0 (pv 0)) (ra_nil))) (ptg_name (pg_name (i := 3) sc__law_windows.nd rfl (by first | exact .inl rfl | exact .inr rfl))) (rss_one (rs_for PassesOwn.never rfl (ri_rng2 rfl G.range (ra_cons (re_int) (ra_cons (re_add (re_var 1 (pv 1)) (re_int)) (ra_nil)))) (ptg_name (pg_name (i := 4) sc__law_windows.nd rfl (by first | exact .inl rfl | exact .inr rfl))) (rss_one (rs_if (rt_cmp (op_le) (rr_le) (re_add (re_var 3 (pv 3)) (re_var 4 (pv 4))) (re_var 0 (pv 0)) (nomark _)) (rss_one (rs_expr (re_append (re_var 2 (pv 2)) (re_tup (ra_cons (re_var 3 (pv 3)) (ra_cons (re_var 4 (pv 4)) (ra_nil))))))) (rss_nil)))))) (rss_one (rs_ret (re_var 2 (pv 2)))))
def nm__law_is_whole : List Str := ["thing"]
theorem sc__law_is_whole : FnScope nm__law_is_whole ["thing"] (defScope (top 82)) := ⟨rfl, rfl, rfl, by decide +kernel, rfl, by decide +kernel, by decide +kernel⟩
theorem d__law_is_whole (G : Gb K w mg) (T : Top K mg "_law_is_whole" (top 82)) {sp : DSp} (len : ∀ ds M Q E, sp ds M Q E → ds.length = 1)
    (hq : ∀ ds M Q E, sp ds M Q E → b__law_is_whole_v2 { nx := fun _ M' => Q .non M', rt := Q } (startD 1 ds) M) : Cal P w K mg base (k + 1) "_law_is_whole" ["thing"] sp := by
  refine cal_mk (N := nm__law_is_whole) T sc__law_is_whole (fun _ _ _ _ _ _ us hl => match us, hl with | [_], _ => rfl) (fun f cdv A outer s H E hr => ?_) len hq
  have hu := hu66 hr
  have hu1 := hu_of hr
  exact rss_one (rs_ret (re_and (re_isi .int (re_var 0 (pv 0)) (pe_ty .int G.int) rfl G.isinstance) (re_one (re_not (re_isi .bl (re_var 0 (pv 0)) (pe_ty .bl G.bool) rfl G.isinstance)))))
theorem dh__law_is_whole (G : Gb K w mg) (T : Top K mg "_law_is_whole" (top 82)) {sp : DSp} (len : ∀ ds M Q E, sp ds M Q E → ds.length = 1)
    (hq : ∀ ds M Q E, sp ds M Q E → b__law_is_whole_v2 { nx := fun _ M' => Q .non M', rt := Q } (startD 1 ds) M) : CalH P w K mg base (k + 1) "_law_is_whole" ["thing"] sp := by
  refine calh_mk (N := nm__law_is_whole) T sc__law_is_whole (fun _ _ _ _ _ _ us hl => match us, hl with | [_], _ => rfl) (fun f cdv A outer s H E hr => ?_) len hq
  have hu := huH hr
  have hu1 := huH1 hr
  exact rss_one (rs_ret (re_and (re_isi .int (re_var 0 (pv 0)) (pe_ty .int G.int) rfl G.isinstance) (re_one (re_not (re_isi .bl (re_var 0 (pv 0)) (pe_ty .bl G.bool) rfl G.isinstance)))))
def nm__law_same : List Str := ["told", "due", "k", "number"]
theorem sc__law_same : FnScope nm__law_same ["told", "due"] (defScope (top 83)) := ⟨rfl, rfl, rfl, by decide +kernel, rfl, by decide +kernel, by decide +kernel⟩
theorem d__law_same {s__law_is_whole : DSp} (G : Gb K w mg) (C__law_is_whole : Cal P w K mg base k "_law_is_whole" ["thing"] s__law_is_whole) (T : Top K mg "_law_same" (top 83)) {sp : DSp} (len : ∀ ds M Q E, sp ds M Q E → ds.length = 2)
    (hq : ∀ ds M Q E, sp ds M Q E → b__law_same s__law_is_whole { nx := fun _ M' => Q .non M', rt := Q } (startD 4 ds) M) : Cal P w K mg base (k + 1) "_law_same" ["told", "due"] sp := by
  refine cal_mk (N := nm__law_same) T sc__law_same (fun _ _ _ _ _ _ us hl => match us, hl with | [_, _], _ => rfl) (fun f cdv A outer s H E hr => ?_) len hq
  have hu := hu66 hr
  have hu1 := hu_of hr
  exact rss_cons (rs_if (PW.pt (rw_or (rt_not (rt_val (re_isi .lst (re_var 0 (pv 0)) (pe_ty .lst G.list) rfl G.isinstance))) (rw_or1 (rt_cmp (op_neA hu) (rr_ne) (re_callB rl_len call_lenA rfl G.len (by decide +kernel) (ra_cons (re_var 0 (pv 0)) (ra_nil))) (re_callB rl_len call_lenA rfl G.len (by decide +kernel) (ra_cons (re_var 1 (pv 1)) (ra_nil))) (nomark _))))) (rss_one (rs_ret (re_bl))) (rss_nil)) (rss_cons (rs_for PassesOwn.never rfl (ri_rng1 rfl G.range (ra_cons (re_callB rl_len call_lenA rfl G.len (by decide +kernel) (ra_cons (re_var 1 (pv 1)) (ra_nil))) (ra_nil))) (ptg_name (pg_name (i := 2) sc__law_same.nd rfl (by first | exact .inl rfl | exact .inr rfl))) (rss_cons (rs_if (PW.pt (rw_or (rt_not (rt_val (re_isi .tup (re_ix (ix_all hu1) rr_ix (re_var 0 (pv 0)) (re_var 2 (pv 2)) (fun _ _ => rfl)) (pe_ty .tup G.tuple) rfl G.isinstance))) (rw_or1 (rt_cmp (op_neA hu) (rr_ne) (re_ix (ix_all hu1) rr_ix (re_var 0 (pv 0)) (re_var 2 (pv 2)) (fun _ _ => rfl)) (re_ix (ix_all hu1) rr_ix (re_var 1 (pv 1)) (re_var 2 (pv 2)) (fun _ _ => rfl)) (nomark _))))) (rss_one (rs_ret (re_bl))) (rss_nil)) (rss_one (rs_if (rt_cmp (op_gt) (rr_gt) (re_callB rl_len call_lenA rfl G.len (by decide +kernel) (ra_cons (re_lc (own := [("number", 3)]) rfl sc__law_same.nd (ri_val (re_ix (ix_all hu1) rr_ix (re_var 0 (pv 0)) (re_var 2 (pv 2)) (fun _ _ => rfl))) (blkOk_by (own := [("number", 3)]) (N := nm__law_same) (sc := defScope (top 83)) (by decide +kernel)) (by decide) (fun _ _ _ _ _ => (ptg_name (pg_name (i := 3) sc__law_same.nd rfl (by first | exact .inl rfl | exact .inr rfl)))) (fun _ _ _ _ _ => rts_one (rt_not (rt_val (re_cal C__law_is_whole hr (ra_cons (re_var 3 (pv 3)) (ra_nil)))))) (fun _ _ _ _ _ => re_var 3 (pv 3))) (ra_nil))) (re_int) (nomark _)) (rss_one (rs_ret (re_bl))) (rss_nil))))) (rss_one (rs_ret (re_bl))))
def nm__law_bad : List Str := ["book", "code", "ends", "window", "e"]
theorem sc__law_bad : FnScope nm__law_bad ["book", "code", "ends", "window"] (defScope (top 84)) := ⟨rfl, rfl, rfl, by decide +kernel, rfl, by decide +kernel, by decide +kernel⟩
theorem d__law_bad {c_BadCode : Addr} {c_NoneshorterError : Addr} {c_TooMany : Addr} {s_live_setsX s_window_textX s__law_is_whole : DSp} (G : Gb K w mg) (M_BadCode : mg "BadCode" = some (.ref c_BadCode)) (M_NoneshorterError : mg "NoneshorterError" = some (.ref c_NoneshorterError)) (M_TooMany : mg "TooMany" = some (.ref c_TooMany)) (XF_BadCode : XfC K c_BadCode) (EC_BadCode : ExcC K c_BadCode) (NO_BadCode : PySem.W.findIn K (.ref c_BadCode) "at" = some none) (CX_live_sets : CalX P w K mg base k "live_sets" ["book", "code", "ends"] s_live_setsX) (CX_window_text : CalX P w K mg base k "window_text" ["book", "code", "ends", "at", "length"] s_window_textX) (H__law_is_whole : CalH P w K mg base k "_law_is_whole" ["thing"] s__law_is_whole) (T : Top K mg "_law_bad" (top 84)) {sp : DSp} (len : ∀ ds M Q E, sp ds M Q E → ds.length = 4)
    (hq : ∀ ds M Q E, sp ds M Q E → b__law_bad_v2 c_BadCode c_NoneshorterError c_TooMany (fun cls => PySem.W.exmOne K cls (.ref c_BadCode)) (fun t => PySem.W.kitOne K t (.ref c_NoneshorterError)) (fun t => PySem.W.kitOne K t (.ref c_TooMany)) s_live_setsX s_window_textX s__law_is_whole { nx := fun _ M' => Q .non M', rt := Q } (startD 5 ds) M) : Cal P w K mg base (k + 1) "_law_bad" ["book", "code", "ends", "window"] sp := by
  refine cal_mk (N := nm__law_bad) T sc__law_bad (fun _ _ _ _ _ _ us hl => match us, hl with | [_, _, _, _], _ => rfl) (fun f cdv A outer s H E hr => ?_) len hq
  have hu := hu66 hr
  have hu1 := hu_of hr
  exact rss_cons (rs_tryAs rfl rfl sc__law_bad.nd rfl rfl ⟨rfl, by decide, .inl M_BadCode⟩ (fun pn xe po => rss_one (rs_if (rt_cmp (op_eqA hu) (rr_eq) (re_callB rl_len call_lenA rfl G.len (by decide +kernel) (ra_cons (re_var 3 (pv 3)) (ra_nil))) (re_int) (nomark _)) (rss_one (rs_dropR (rx_call CX_live_sets hr (ra_cons (re_var 0 (pv 0)) (ra_cons (re_var 1 (pv 1)) (ra_cons (re_var 2 (pv 2)) (ra_nil))))))) (rss_one (rs_dropR (rx_call CX_window_text hr (ra_cons (re_var 0 (pv 0)) (ra_cons (re_var 1 (pv 1)) (ra_cons (re_var 2 (pv 2)) (ra_cons (re_ix (ix_all hu1) rr_ix (re_var 3 (pv 3)) (re_int) (fun _ _ => rfl)) (ra_cons (re_ix (ix_all hu1) rr_ix (re_var 3 (pv 3)) (re_int) (fun _ _ => rfl)) (ra_nil))))))))))) (fun a oe cls d pn hz hf => rss_one (rs_if (PW.pt (rw_and (rt_val (re_isX EC_BadCode hz hf (re_var 4 (pv 4)) (pe_glob (v := .ref c_NoneshorterError) rfl M_NoneshorterError rfl) (fun _ h => h) rfl G.isinstance)) (rw_and (rt_not (rt_val (re_isX EC_BadCode hz hf (re_var 4 (pv 4)) (pe_glob (v := .ref c_TooMany) rfl M_TooMany rfl) (fun _ h => h) rfl G.isinstance))) (rw_and1 (rt_val (re_calH H__law_is_whole (roomM hr) (ra_cons (re_xf XF_BadCode NO_BadCode hz hf (re_var 4 (pv 4))) (ra_nil)))))))) (rss_one (rs_ret (re_xf XF_BadCode NO_BadCode hz hf (re_var 4 (pv 4))))) (rss_nil)))) (rss_one (rs_ret (re_neg (re_int))))
def nm__law_text_asked : List Str := ["data", "book", "code", "ends", "window", "state", "at", "behind", "live", "given", "text", "end", "k", "told", "register"]
theorem sc__law_text_asked : FnScope nm__law_text_asked ["data", "book", "code", "ends", "window", "state"] (defScope (top 85)) := ⟨rfl, rfl, rfl, by decide +kernel, rfl, by decide +kernel, by decide +kernel⟩
theorem d__law_text_asked {cl : CF} {c_Text : Addr} {s__law_live s_window_text s__law_after s_text_outputs : DSp} (G : Gb K w mg) (hcl : CfOk K cl) (M_Text : mg "Text" = some (.ref c_Text)) (F_Text : IsCF K c_Text) (C__law_live : Cal P w K mg base k "_law_live" ["code", "ends"] s__law_live) (C_window_text : Cal P w K mg base k "window_text" ["book", "code", "ends", "at", "length"] s_window_text) (C__law_after : Cal P w K mg base k "_law_after" ["data", "step", "state"] s__law_after) (C_text_outputs : Cal P w K mg base k "text_outputs" ["text", "row"] s_text_outputs) (T : Top K mg "_law_text_asked" (top 85)) {sp : DSp} (len : ∀ ds M Q E, sp ds M Q E → ds.length = 6)
    (hq : ∀ ds M Q E, sp ds M Q E → b__law_text_asked cl c_Text (fun t => PySem.W.kitOne K t (.ref c_Text)) s__law_live s_window_text s__law_after s_text_outputs { nx := fun _ M' => Q .non M', rt := Q } (startD 15 ds) M) : Cal P w K mg base (k + 1) "_law_text_asked" ["data", "book", "code", "ends", "window", "state"] sp := by
  refine cal_mk (N := nm__law_text_asked) T sc__law_text_asked (fun _ _ _ _ _ _ us hl => match us, hl with | [_, _, _, _, _, _], _ => rfl) (fun f cdv A outer s H E hr => ?_) len hq
  have hu := hu66 hr
  have hu1 := hu_of hr
  exact rss_cons (rs_set (i := 6) sc__law_text_asked.nd rfl (by first | exact .inl rfl | exact .inr rfl) (re_ix (ix_all hu1) rr_ix (re_var 4 (pv 4)) (re_int) (fun _ _ => rfl))) (rss_cons (rs_set (i := 7) sc__law_text_asked.nd rfl (by first | exact .inl rfl | exact .inr rfl) (re_add (re_var 6 (pv 6)) (re_ix (ix_all hu1) rr_ix (re_var 4 (pv 4)) (re_int) (fun _ _ => rfl)))) (rss_cons (rs_set (i := 8) sc__law_text_asked.nd rfl (by first | exact .inl rfl | exact .inr rfl) (re_ix (ix_all hu1) rr_ix (re_cal C__law_live hr (ra_cons (re_var 2 (pv 2)) (ra_cons (re_var 3 (pv 3)) (ra_nil)))) (re_var 7 (pv 7)) (fun _ _ => rfl))) (rss_cons (rs_set (i := 9) sc__law_text_asked.nd rfl (by first | exact .inl rfl | exact .inr rfl) (re_callTy rl_list call_list_of rfl G.list (by decide +kernel) (ra_cons (re_var 2 (pv 2)) (ra_nil)))) (rss_cons (rs_set (i := 10) sc__law_text_asked.nd rfl (by first | exact .inl rfl | exact .inr rfl) (re_cal C_window_text hr (ra_cons (re_var 1 (pv 1)) (ra_cons (re_var 9 (pv 9)) (ra_cons (re_var 3 (pv 3)) (ra_cons (re_var 6 (pv 6)) (ra_cons (re_ix (ix_all hu1) rr_ix (re_var 4 (pv 4)) (re_int) (fun _ _ => rfl)) (ra_nil)))))))) (rss_cons (rs_if (PW.pt (rw_or (rt_not (rt_val (re_isC F_Text (re_var 10 (pv 10)) (pe_glob (v := .ref c_Text) rfl M_Text rfl) rfl G.isinstance))) (rw_or (rt_cmp (op_neA hu) (rr_ne) (re_fld hcl (re_var 10 (pv 10))) (re_ix (ix_all hu1) rr_ix (re_var 0 (pv 0)) (re_int) (fun _ _ => rfl)) (nomark _)) (rw_or1 (rt_cmp (op_neA hu) (rr_ne) (re_fld hcl (re_var 10 (pv 10))) (re_slice (re_tup (ra_cons (re_str) (ra_cons (re_str) (ra_cons (re_str) (ra_cons (re_str) (ra_nil)))))) ro_none (ro_some (re_ix (ix_all hu1) rr_ix (re_var 0 (pv 0)) (re_int) (fun _ _ => rfl)))) (nomark _)))))) (rss_one (rs_ret (re_bl))) (rss_nil)) (rss_cons (rs_if (rt_cmp (op_gt) (rr_gt) (re_callB rl_len call_lenA rfl G.len (by decide +kernel) (ra_cons (re_fld hcl (re_var 10 (pv 10))) (ra_nil))) (re_int) (nomark _)) (rss_one (rs_ret (re_bl))) (rss_nil)) (rss_cons (rs_set (i := 11) sc__law_text_asked.nd rfl (by first | exact .inl rfl | exact .inr rfl) (re_var 5 (pv 5))) (rss_cons (rs_for PassesOwn.never rfl (ri_rng2 rfl G.range (ra_cons (re_var 6 (pv 6)) (ra_cons (re_var 7 (pv 7)) (ra_nil)))) (ptg_name (pg_name (i := 12) sc__law_text_asked.nd rfl (by first | exact .inl rfl | exact .inr rfl))) (rss_one (rs_set (i := 11) sc__law_text_asked.nd rfl (by first | exact .inl rfl | exact .inr rfl) (re_cal C__law_after hr (ra_cons (re_var 0 (pv 0)) (ra_cons (re_ix (ix_all hu1) rr_ix (re_var 2 (pv 2)) (re_var 12 (pv 12)) (fun _ _ => rfl)) (ra_cons (re_var 11 (pv 11)) (ra_nil)))))))) (rss_cons (rs_set (i := 13) sc__law_text_asked.nd rfl (by first | exact .inl rfl | exact .inr rfl) (re_cal C_text_outputs hr (ra_cons (re_var 10 (pv 10)) (ra_cons (re_var 5 (pv 5)) (ra_nil))))) (rss_one (rs_ret (re_and (re_isi .tup (re_var 13 (pv 13)) (pe_ty .tup G.tuple) rfl G.isinstance) (re_and (re_cmp (op_eqA hu) (rr_eq) (re_var 13 (pv 13)) (re_callTy rl_tuple call_tuple_of rfl G.tuple (by decide +kernel) (ra_cons (re_lc (own := [("register", 14)]) rfl sc__law_text_asked.nd (ri_val (re_var 8 (pv 8))) (blkOk_by (own := [("register", 14)]) (N := nm__law_text_asked) (sc := defScope (top 85)) (by decide +kernel)) (by decide) (fun _ _ _ _ _ => (ptg_name (pg_name (i := 14) sc__law_text_asked.nd rfl (by first | exact .inl rfl | exact .inr rfl)))) (fun _ _ _ _ _ => rts_nil) (fun _ _ _ _ _ => re_tup (ra_cons (re_var 14 (pv 14)) (ra_cons (re_ix (ix_all hu1) rr_ix (re_var 11 (pv 11)) (re_var 14 (pv 14)) (fun _ _ => rfl)) (ra_nil))))) (ra_nil))) (nomark _)) (re_one (re_cmp (op_eqA hu) (rr_eq) (re_var 9 (pv 9)) (re_var 2 (pv 2)) (nomark _))))))))))))))))
def nm__law_places_asked : List Str := ["numbers", "cursor", "many", "size", "rare", "told", "window"]
theorem sc__law_places_asked : FnScope nm__law_places_asked ["numbers", "cursor"] (defScope (top 86)) := ⟨rfl, rfl, rfl, by decide +kernel, rfl, by decide +kernel, by decide +kernel⟩
theorem d__law_places_asked {s__law_take s__law_same s__law_windows : DSp} (G : Gb K w mg) (W_window_places : DG.CalW P w K mg base k "window_places" ["many", "size"]) (C__law_take : Cal P w K mg base (k + 1) "_law_take" ["numbers", "cursor", "many"] s__law_take) (C__law_same : Cal P w K mg base (k + 1) "_law_same" ["told", "due"] s__law_same) (C__law_windows : Cal P w K mg base (k + 1) "_law_windows" ["many", "size"] s__law_windows) (T : Top K mg "_law_places_asked" (top 86)) {sp : DSp} (len : ∀ ds M Q E, sp ds M Q E → ds.length = 2)
    (hq : ∀ ds M Q E, sp ds M Q E → b__law_places_asked s__law_take s__law_same s__law_windows { nx := fun _ M' => Q .non M', rt := Q } (startD 7 ds) M) : Cal P w K mg base ((k + 1) + 1) "_law_places_asked" ["numbers", "cursor"] sp := by
  refine cal_mk (N := nm__law_places_asked) T sc__law_places_asked (fun _ _ _ _ _ _ us hl => match us, hl with | [_, _], _ => rfl) (fun f cdv A outer s H E hr => ?_) len hq
  have hu := hu66 hr
  have hu1 := hu_of hr
  exact rss_cons (rs_set (i := 2) sc__law_places_asked.nd rfl (by first | exact .inl rfl | exact .inr rfl) (re_cal C__law_take hr (ra_cons (re_var 0 (pv 0)) (ra_cons (re_var 1 (pv 1)) (ra_cons (re_int) (ra_nil)))))) (rss_cons (rs_set (i := 3) sc__law_places_asked.nd rfl (by first | exact .inl rfl | exact .inr rfl) (re_cal C__law_take hr (ra_cons (re_var 0 (pv 0)) (ra_cons (re_var 1 (pv 1)) (ra_cons (re_int) (ra_nil)))))) (rss_cons (rs_set (i := 4) sc__law_places_asked.nd rfl (by first | exact .inl rfl | exact .inr rfl) (re_cal C__law_take hr (ra_cons (re_var 0 (pv 0)) (ra_cons (re_var 1 (pv 1)) (ra_cons (re_int) (ra_nil)))))) (rss_cons (rs_if (rt_cmp (op_lt) (rr_lt) (re_var 4 (pv 4)) (re_int) (nomark _)) (rss_one (rs_set (i := 2) sc__law_places_asked.nd rfl (by first | exact .inl rfl | exact .inr rfl) (re_cal C__law_take hr (ra_cons (re_var 0 (pv 0)) (ra_cons (re_var 1 (pv 1)) (ra_cons (re_int) (ra_nil))))))) (rss_nil)) (rss_cons (rs_if (rt_cmp (op_inA hu1) (rr_in (neg := false)) (re_var 4 (pv 4)) (re_lst (ra_cons (re_int) (ra_cons (re_int) (ra_nil)))) rfl) (rss_one (rs_set (i := 3) sc__law_places_asked.nd rfl (by first | exact .inl rfl | exact .inr rfl) (re_cal C__law_take hr (ra_cons (re_var 0 (pv 0)) (ra_cons (re_var 1 (pv 1)) (ra_cons (re_int) (ra_nil))))))) (rss_nil)) (rss_cons (rs_set (i := 5) sc__law_places_asked.nd rfl (by first | exact .inl rfl | exact .inr rfl) (re_lst (ra_nil))) (rss_cons (DG.rs_forW W_window_places rfl hr (ra_cons (re_var 2 (pv 2)) (ra_cons (re_var 3 (pv 3)) (ra_nil))) sc__law_places_asked.nd (by decide) rfl rfl rfl rfl) (rss_one (rs_ret (re_cal C__law_same hr (ra_cons (re_var 5 (pv 5)) (ra_cons (re_cal C__law_windows hr (ra_cons (re_var 2 (pv 2)) (ra_cons (re_var 3 (pv 3)) (ra_nil)))) (ra_nil))))))))))))
def nm_law : List Str := ["script", "numbers", "cursor", "data", "book", "steps", "many", "code", "k", "ends", "register", "state", "at", "window", "due", "bad", "handed", "told"]
theorem sc_law : FnScope nm_law ["script"] (defScope (top 87)) := ⟨rfl, rfl, rfl, by decide +kernel, rfl, by decide +kernel, by decide +kernel⟩
theorem d_law {c_Book : Addr} {s_Book : DSp} {s__law_stream s__law_book s__law_steps s__law_take s__law_places_asked s__law_spoilt s__law_bad s_live_sets s__law_same s__law_live s__law_text_asked : DSp} (G : Gb K w mg) (I_Book : CalI P w K mg base k "Book" c_Book ["self", "width", "registers", "words", "deeds"] s_Book) (C__law_stream : Cal P w K mg base (k + 1) "_law_stream" ["script", "many"] s__law_stream) (C__law_book : Cal P w K mg base (k + 1) "_law_book" ["numbers", "cursor"] s__law_book) (C__law_steps : Cal P w K mg base (k + 1) "_law_steps" ["data", "registers"] s__law_steps) (C__law_take : Cal P w K mg base (k + 1) "_law_take" ["numbers", "cursor", "many"] s__law_take) (C__law_places_asked : Cal P w K mg base (k + 1) "_law_places_asked" ["numbers", "cursor"] s__law_places_asked) (C__law_spoilt : Cal P w K mg base (k + 1) "_law_spoilt" ["numbers", "cursor", "data", "step"] s__law_spoilt) (C__law_bad : Cal P w K mg base (k + 1) "_law_bad" ["book", "code", "ends", "window"] s__law_bad) (C_live_sets : Cal P w K mg base (k + 1) "live_sets" ["book", "code", "ends"] s_live_sets) (C__law_same : Cal P w K mg base (k + 1) "_law_same" ["told", "due"] s__law_same) (C__law_live : Cal P w K mg base (k + 1) "_law_live" ["code", "ends"] s__law_live) (C__law_text_asked : Cal P w K mg base (k + 1) "_law_text_asked" ["data", "book", "code", "ends", "window", "state"] s__law_text_asked) {f : Addr} {fd : FuncData} (F : FunD K "law" "law" (defArgs (top 87)) (defBody (top 87)) (defScope (top 87)) [] [] f fd) {sp : DSp} (len : ∀ ds M Q E, sp ds M Q E → ds.length = 1)
    (hq : ∀ ds M Q E, sp ds M Q E → b_law_v5 c_Book s_Book s__law_stream s__law_book s__law_steps s__law_take s__law_places_asked s__law_spoilt s__law_bad s_live_sets s__law_same s__law_live s__law_text_asked { nx := fun _ M' => Q .non M', rt := Q } (startD 18 ds) M) : FnOk P w K mg base CX0 ((k + 1) + 1) f fd ["script"] (spD K w sp) := by
  refine fn_ok (N := nm_law) F sc_law len (fun cdv A outer s H E hr => ?_) hq
  have hu := hu66 hr
  have hu1 := hu_of hr
  exact rss_cons (rs_set (i := 1) sc_law.nd rfl (by first | exact .inl rfl | exact .inr rfl) (re_cal C__law_stream hr (ra_cons (re_var 0 (pv 0)) (ra_cons (re_int) (ra_nil))))) (rss_cons (rs_set (i := 2) sc_law.nd rfl (by first | exact .inl rfl | exact .inr rfl) (re_lst (ra_cons (re_int) (ra_nil)))) (rss_cons (rs_set (i := 3) sc_law.nd rfl (by first | exact .inl rfl | exact .inr rfl) (re_cal C__law_book hr (ra_cons (re_var 1 (pv 1)) (ra_cons (re_var 2 (pv 2)) (ra_nil))))) (rss_cons (rs_set (i := 4) sc_law.nd rfl (by first | exact .inl rfl | exact .inr rfl) (re_make I_Book hr (ra_cons (re_ix (ix_all hu1) rr_ix (re_var 3 (pv 3)) (re_int) (fun _ _ => rfl)) (ra_cons (re_ix (ix_all hu1) rr_ix (re_var 3 (pv 3)) (re_int) (fun _ _ => rfl)) (ra_cons (re_callTy rl_list call_list_of rfl G.list (by decide +kernel) (ra_cons (re_ix (ix_all hu1) rr_ix (re_var 3 (pv 3)) (re_int) (fun _ _ => rfl)) (ra_nil))) (ra_cons (re_callTy rl_list call_list_of rfl G.list (by decide +kernel) (ra_cons (re_ix (ix_all hu1) rr_ix (re_var 3 (pv 3)) (re_int) (fun _ _ => rfl)) (ra_nil))) (ra_nil))))))) (rss_cons (rs_set (i := 5) sc_law.nd rfl (by first | exact .inl rfl | exact .inr rfl) (re_cal C__law_steps hr (ra_cons (re_var 3 (pv 3)) (ra_cons (re_ix (ix_all hu1) rr_ix (re_var 3 (pv 3)) (re_int) (fun _ _ => rfl)) (ra_nil))))) (rss_cons (rs_set (i := 6) sc_law.nd rfl (by first | exact .inl rfl | exact .inr rfl) (re_cal C__law_take hr (ra_cons (re_var 1 (pv 1)) (ra_cons (re_var 2 (pv 2)) (ra_cons (re_int) (ra_nil)))))) (rss_cons (rs_if (rt_cmp (op_eqA hu) (rr_eq) (re_cal C__law_take hr (ra_cons (re_var 1 (pv 1)) (ra_cons (re_var 2 (pv 2)) (ra_cons (re_int) (ra_nil))))) (re_int) (nomark _)) (rss_one (rs_set (i := 6) sc_law.nd rfl (by first | exact .inl rfl | exact .inr rfl) (re_add (re_int) (re_cal C__law_take hr (ra_cons (re_var 1 (pv 1)) (ra_cons (re_var 2 (pv 2)) (ra_cons (re_int) (ra_nil)))))))) (rss_nil)) (rss_cons (rs_set (i := 7) sc_law.nd rfl (by first | exact .inl rfl | exact .inr rfl) (re_lst (ra_nil))) (rss_cons (rs_for PassesOwn.never rfl (ri_rng1 rfl G.range (ra_cons (re_var 6 (pv 6)) (ra_nil))) (ptg_name (pg_name (i := 8) sc_law.nd rfl (by first | exact .inl rfl | exact .inr rfl))) (rss_one (rs_expr (re_append (re_var 7 (pv 7)) (re_ix (ix_all hu1) rr_ix (re_var 5 (pv 5)) (re_mod (re_callTy rl_int1 call_int1 rfl G.int (by decide +kernel) (ra_cons (re_add (re_mul (re_cal C__law_take hr (ra_cons (re_var 1 (pv 1)) (ra_cons (re_var 2 (pv 2)) (ra_cons (re_int) (ra_nil))))) (re_int)) (re_cal C__law_take hr (ra_cons (re_var 1 (pv 1)) (ra_cons (re_var 2 (pv 2)) (ra_cons (re_int) (ra_nil)))))) (ra_nil))) (re_callB rl_len call_lenA rfl G.len (by decide +kernel) (ra_cons (re_var 5 (pv 5)) (ra_nil)))) (fun _ _ => rfl)))))) (rss_cons (rs_set (i := 9) sc_law.nd rfl (by first | exact .inl rfl | exact .inr rfl) (re_callTy rl_tuple call_tuple_of rfl G.tuple (by decide +kernel) (ra_cons (re_lc (own := [("register", 10)]) rfl sc_law.nd (ri_rng1 rfl G.range (ra_cons (re_ix (ix_all hu1) rr_ix (re_var 3 (pv 3)) (re_int) (fun _ _ => rfl)) (ra_nil))) (blkOk_by (own := [("register", 10)]) (N := nm_law) (sc := defScope (top 87)) (by decide +kernel)) (by decide) (fun _ _ _ _ _ => (ptg_name (pg_name (i := 10) sc_law.nd rfl (by first | exact .inl rfl | exact .inr rfl)))) (fun _ _ _ _ _ => rts_one (rt_cmp (op_gt) (rr_gt) (re_cal C__law_take hr (ra_cons (re_var 1 (pv 1)) (ra_cons (re_var 2 (pv 2)) (ra_cons (re_int) (ra_nil))))) (re_int) (nomark _))) (fun _ _ _ _ _ => re_var 10 (pv 10))) (ra_nil)))) (rss_cons (rs_set (i := 11) sc_law.nd rfl (by first | exact .inl rfl | exact .inr rfl) (re_callTy rl_tuple call_tuple_of rfl G.tuple (by decide +kernel) (ra_cons (re_lc (own := [("register", 10)]) rfl sc_law.nd (ri_rng1 rfl G.range (ra_cons (re_ix (ix_all hu1) rr_ix (re_var 3 (pv 3)) (re_int) (fun _ _ => rfl)) (ra_nil))) (blkOk_by (own := [("register", 10)]) (N := nm_law) (sc := defScope (top 87)) (by decide +kernel)) (by decide) (fun _ _ _ _ _ => (ptg_name (pg_name (i := 10) sc_law.nd rfl (by first | exact .inl rfl | exact .inr rfl)))) (fun _ _ _ _ _ => rts_nil) (fun _ _ _ _ _ => re_cal C__law_take hr (ra_cons (re_var 1 (pv 1)) (ra_cons (re_var 2 (pv 2)) (ra_cons (re_shl (re_int) (re_ix (ix_all hu1) rr_ix (re_var 3 (pv 3)) (re_int) (fun _ _ => rfl))) (ra_nil)))))) (ra_nil)))) (rss_cons (rs_if (rt_not (rt_val (re_cal C__law_places_asked hr (ra_cons (re_var 1 (pv 1)) (ra_cons (re_var 2 (pv 2)) (ra_nil)))))) (rss_one (rs_ret (re_bl))) (rss_nil)) (rss_cons (rs_set (i := 12) sc_law.nd rfl (by first | exact .inl rfl | exact .inr rfl) (re_cal C__law_take hr (ra_cons (re_var 1 (pv 1)) (ra_cons (re_var 2 (pv 2)) (ra_cons (re_add (re_callB rl_min2 (call_min2 rfl) rfl G.min (by decide +kernel) (ra_cons (re_callB rl_len call_lenA rfl G.len (by decide +kernel) (ra_cons (re_var 7 (pv 7)) (ra_nil))) (ra_cons (re_int) (ra_nil)))) (re_int)) (ra_nil)))))) (rss_cons (rs_set (i := 13) sc_law.nd rfl (by first | exact .inl rfl | exact .inr rfl) (re_tup (ra_cons (re_var 12 (pv 12)) (ra_cons (re_callB rl_min2 (call_min2 rfl) rfl G.min (by decide +kernel) (ra_cons (re_cal C__law_take hr (ra_cons (re_var 1 (pv 1)) (ra_cons (re_var 2 (pv 2)) (ra_cons (re_int) (ra_nil))))) (ra_cons (re_sub (re_callB rl_min2 (call_min2 rfl) rfl G.min (by decide +kernel) (ra_cons (re_callB rl_len call_lenA rfl G.len (by decide +kernel) (ra_cons (re_var 7 (pv 7)) (ra_nil))) (ra_cons (re_int) (ra_nil)))) (re_var 12 (pv 12))) (ra_nil)))) (ra_nil))))) (rss_cons (rs_if (PW.pt (rw_and (rt_cmp (op_gt) (rr_gt) (re_var 6 (pv 6)) (re_int) (nomark _)) (rw_and1 (rt_cmp (op_eqA hu) (rr_eq) (re_cal C__law_take hr (ra_cons (re_var 1 (pv 1)) (ra_cons (re_var 2 (pv 2)) (ra_cons (re_int) (ra_nil))))) (re_int) (nomark _))))) (rss_one (rs_set (i := 13) sc_law.nd rfl (by first | exact .inl rfl | exact .inr rfl) (re_tup (ra_cons (re_var 12 (pv 12)) (ra_cons (re_mod (re_callTy rl_int1 call_int1 rfl G.int (by decide +kernel) (ra_cons (re_ix (ix_all hu1) rr_ix (re_var 13 (pv 13)) (re_int) (fun _ _ => rfl)) (ra_nil))) (re_int)) (ra_nil)))))) (rss_nil)) (rss_cons (rs_set (i := 14) sc_law.nd rfl (by first | exact .inl rfl | exact .inr rfl) (re_neg (re_int))) (rss_cons (rs_if (rt_cmp (op_gt) (rr_gt) (re_callB rl_len call_lenA rfl G.len (by decide +kernel) (ra_cons (re_var 7 (pv 7)) (ra_nil))) (re_int) (nomark _)) (rss_one (rs_set (i := 14) sc_law.nd rfl (by first | exact .inl rfl | exact .inr rfl) (re_int))) (rss_nil)) (rss_cons (rs_if (PW.pt (rw_and (rt_cmp (op_gt) (rr_gt) (re_callB rl_len call_lenA rfl G.len (by decide +kernel) (ra_cons (re_var 7 (pv 7)) (ra_nil))) (re_int) (nomark _)) (rw_and1 (rt_cmp (op_eqA hu) (rr_eq) (re_cal C__law_take hr (ra_cons (re_var 1 (pv 1)) (ra_cons (re_var 2 (pv 2)) (ra_cons (re_int) (ra_nil))))) (re_int) (nomark _))))) (rss_cons (rs_set (i := 15) sc_law.nd rfl (by first | exact .inl rfl | exact .inr rfl) (re_mod (re_cal C__law_take hr (ra_cons (re_var 1 (pv 1)) (ra_cons (re_var 2 (pv 2)) (ra_cons (re_int) (ra_nil))))) (re_callB rl_len call_lenA rfl G.len (by decide +kernel) (ra_cons (re_var 7 (pv 7)) (ra_nil))))) (rss_cons (rs_setIx hu1 (re_var 7 (pv 7)) (re_var 15 (pv 15)) (re_cal C__law_spoilt hr (ra_cons (re_var 1 (pv 1)) (ra_cons (re_var 2 (pv 2)) (ra_cons (re_var 3 (pv 3)) (ra_cons (re_ix (ix_all hu1) rr_ix (re_var 7 (pv 7)) (re_var 15 (pv 15)) (fun _ _ => rfl)) (ra_nil))))))) (rss_one (rs_set (i := 14) sc_law.nd rfl (by first | exact .inl rfl | exact .inr rfl) (re_callB rl_min2 (call_min2 rfl) rfl G.min (by decide +kernel) (ra_cons (re_var 15 (pv 15)) (ra_cons (re_int) (ra_nil)))))))) (rss_nil)) (rss_cons (rs_set (i := 16) sc_law.nd rfl (by first | exact .inl rfl | exact .inr rfl) (re_callTy rl_list call_list_of rfl G.list (by decide +kernel) (ra_cons (re_var 7 (pv 7)) (ra_nil)))) (rss_cons (rs_if (PW.pt (rw_or (rt_cmp (op_neA hu) (rr_ne) (re_cal C__law_bad hr (ra_cons (re_var 4 (pv 4)) (ra_cons (re_var 16 (pv 16)) (ra_cons (re_var 9 (pv 9)) (ra_cons (re_tup (ra_nil)) (ra_nil)))))) (re_var 14 (pv 14)) (nomark _)) (rw_or (rt_cmp (op_neA hu) (rr_ne) (re_cal C__law_bad hr (ra_cons (re_var 4 (pv 4)) (ra_cons (re_var 16 (pv 16)) (ra_cons (re_var 9 (pv 9)) (ra_cons (re_var 13 (pv 13)) (ra_nil)))))) (re_var 14 (pv 14)) (nomark _)) (rw_or1 (rt_cmp (op_neA hu) (rr_ne) (re_var 16 (pv 16)) (re_var 7 (pv 7)) (nomark _)))))) (rss_one (rs_ret (re_bl))) (rss_nil)) (rss_cons (rs_if (rt_cmp (op_ge) (rr_ge) (re_var 14 (pv 14)) (re_int) (nomark _)) (rss_one (rs_ret (re_bl))) (rss_nil)) (rss_cons (rs_set (i := 17) sc_law.nd rfl (by first | exact .inl rfl | exact .inr rfl) (re_cal C_live_sets hr (ra_cons (re_var 4 (pv 4)) (ra_cons (re_callTy rl_list call_list_of rfl G.list (by decide +kernel) (ra_cons (re_var 7 (pv 7)) (ra_nil))) (ra_cons (re_var 9 (pv 9)) (ra_nil)))))) (rss_cons (rs_if (rt_not (rt_val (re_cal C__law_same hr (ra_cons (re_var 17 (pv 17)) (ra_cons (re_cal C__law_live hr (ra_cons (re_var 7 (pv 7)) (ra_cons (re_var 9 (pv 9)) (ra_nil)))) (ra_nil)))))) (rss_one (rs_ret (re_bl))) (rss_nil)) (rss_cons (rs_expr (re_append (re_var 17 (pv 17)) (re_tup (ra_nil)))) (rss_cons (rs_if (rt_not (rt_val (re_cal C__law_same hr (ra_cons (re_cal C_live_sets hr (ra_cons (re_var 4 (pv 4)) (ra_cons (re_callTy rl_list call_list_of rfl G.list (by decide +kernel) (ra_cons (re_var 7 (pv 7)) (ra_nil))) (ra_cons (re_var 9 (pv 9)) (ra_nil))))) (ra_cons (re_cal C__law_live hr (ra_cons (re_var 7 (pv 7)) (ra_cons (re_var 9 (pv 9)) (ra_nil)))) (ra_nil)))))) (rss_one (rs_ret (re_bl))) (rss_nil)) (rss_one (rs_ret (re_cal C__law_text_asked hr (ra_cons (re_var 3 (pv 3)) (ra_cons (re_var 4 (pv 4)) (ra_cons (re_var 7 (pv 7)) (ra_cons (re_var 9 (pv 9)) (ra_cons (re_var 13 (pv 13)) (ra_cons (re_var 11 (pv 11)) (ra_nil))))))))))))))))))))))))))))))))))
def nm_Text__init__ : List Str := ["self", "width", "inputs", "needs", "lets", "outs", "name", "formula", "register", "line"]
theorem sc_Text__init__ : FnScope nm_Text__init__ ["self", "width", "inputs", "needs", "lets", "outs"] (defScope (met 34 0)) := ⟨rfl, rfl, rfl, by decide +kernel, rfl, by decide +kernel, by decide +kernel⟩
theorem d_Text__init__ {cl : CF} {s_first_bad_line_texts : DSp} (G : Gb K w mg) (hcl : CfOk K cl) (C_first_bad_line_texts : Cal P w K mg base k "first_bad_line_texts" ["text"] s_first_bad_line_texts) {C f : Addr} {fd : FuncData} (F : FunD K "__init__" "Text.__init__" (defArgs (met 34 0)) (defBody (met 34 0)) (defScope (met 34 0)) [] [] f fd) (M0 : Mk K C f) (hm : mg "Text" = some (.ref C)) {sp : DSp} (len : ∀ ds M Q E, sp ds M Q E → ds.length = 6)
    (hq : ∀ ds M Q E, sp ds M Q E → b_Text__init___v2 cl s_first_bad_line_texts { nx := fun _ M' => Q .non M', rt := Q } (startD 10 ds) M) : CalI P w K mg base (k + 1) "Text" C ["self", "width", "inputs", "needs", "lets", "outs"] sp := by
  refine cali_mk (N := nm_Text__init__) F M0 hm sc_Text__init__ (fun _ _ _ _ _ _ us hl => match us, hl with | [_, _, _, _, _, _], _ => rfl) (fun cdv A outer s H E hr => ?_) len hq
  have hu := hu66 hr
  have hu1 := hu_of hr
  exact rss_cons (rs_setFld hcl (re_var 0 (pv 0)) (re_var 1 (pv 1))) (rss_cons (rs_setFld hcl (re_var 0 (pv 0)) (re_callTy rl_tuple call_tuple_of rfl G.tuple (by decide +kernel) (ra_cons (re_var 2 (pv 2)) (ra_nil)))) (rss_cons (rs_setFld hcl (re_var 0 (pv 0)) (re_callTy rl_tuple call_tuple_of rfl G.tuple (by decide +kernel) (ra_cons (re_var 3 (pv 3)) (ra_nil)))) (rss_cons (rs_setFld hcl (re_var 0 (pv 0)) (re_callTy rl_tuple call_tuple_of rfl G.tuple (by decide +kernel) (ra_cons (re_lc (tG := gTup K 2 (gNames [6, 7])) (own := [("name", 6), ("formula", 7)]) rfl sc_Text__init__.nd (ri_val (re_var 4 (pv 4))) (blkOk_by (own := [("name", 6), ("formula", 7)]) (N := nm_Text__init__) (sc := defScope (met 34 0)) (by decide +kernel)) (by decide) (fun _ _ _ _ _ => (ptg_two rfl (pg_name (i := 6) sc_Text__init__.nd rfl (by first | exact .inl rfl | exact .inr rfl)) (pg_name (i := 7) sc_Text__init__.nd rfl (by first | exact .inl rfl | exact .inr rfl)))) (fun _ _ _ _ _ => rts_nil) (fun _ _ _ _ _ => re_tup (ra_cons (re_var 6 (pv 6)) (ra_cons (re_var 7 (pv 7)) (ra_nil))))) (ra_nil)))) (rss_cons (rs_setFld hcl (re_var 0 (pv 0)) (re_callTy rl_tuple call_tuple_of rfl G.tuple (by decide +kernel) (ra_cons (re_lc (tG := gTup K 2 (gNames [8, 7])) (own := [("register", 8), ("formula", 7)]) rfl sc_Text__init__.nd (ri_val (re_var 5 (pv 5))) (blkOk_by (own := [("register", 8), ("formula", 7)]) (N := nm_Text__init__) (sc := defScope (met 34 0)) (by decide +kernel)) (by decide) (fun _ _ _ _ _ => (ptg_two rfl (pg_name (i := 8) sc_Text__init__.nd rfl (by first | exact .inl rfl | exact .inr rfl)) (pg_name (i := 7) sc_Text__init__.nd rfl (by first | exact .inl rfl | exact .inr rfl)))) (fun _ _ _ _ _ => rts_nil) (fun _ _ _ _ _ => re_tup (ra_cons (re_var 8 (pv 8)) (ra_cons (re_var 7 (pv 7)) (ra_nil))))) (ra_nil)))) (rss_cons (rs_set (i := 9) sc_Text__init__.nd rfl (by first | exact .inl rfl | exact .inr rfl) (re_cal C_first_bad_line_texts hr (ra_cons (re_var 0 (pv 0)) (ra_nil)))) (rss_one (rs_if (rt_cmp (op_gt) (rr_gt) (re_var 9 (pv 9)) (re_int) (nomark _)) (rss_one (rs_never)) (rss_nil))))))))
def nm_Book__init__ : List Str := ["self", "width", "registers", "words", "deeds", "name", "price", "formula", "line"]
theorem sc_Book__init__ : FnScope nm_Book__init__ ["self", "width", "registers", "words", "deeds"] (defScope (met 58 0)) := ⟨rfl, rfl, rfl, by decide +kernel, rfl, by decide +kernel, by decide +kernel⟩
theorem d_Book__init__ {cl : CF} {s_first_bad_line_books : DSp} (G : Gb K w mg) (hcl : CfOk K cl) (C_first_bad_line_books : Cal P w K mg base k "first_bad_line_books" ["book"] s_first_bad_line_books) {C f : Addr} {fd : FuncData} (F : FunD K "__init__" "Book.__init__" (defArgs (met 58 0)) (defBody (met 58 0)) (defScope (met 58 0)) [] [] f fd) (M0 : Mk K C f) (hm : mg "Book" = some (.ref C)) {sp : DSp} (len : ∀ ds M Q E, sp ds M Q E → ds.length = 5)
    (hq : ∀ ds M Q E, sp ds M Q E → b_Book__init___v2 cl s_first_bad_line_books { nx := fun _ M' => Q .non M', rt := Q } (startD 9 ds) M) : CalI P w K mg base (k + 1) "Book" C ["self", "width", "registers", "words", "deeds"] sp := by
  refine cali_mk (N := nm_Book__init__) F M0 hm sc_Book__init__ (fun _ _ _ _ _ _ us hl => match us, hl with | [_, _, _, _, _], _ => rfl) (fun cdv A outer s H E hr => ?_) len hq
  have hu := hu66 hr
  have hu1 := hu_of hr
  exact rss_cons (rs_setFld hcl (re_var 0 (pv 0)) (re_var 1 (pv 1))) (rss_cons (rs_setFld hcl (re_var 0 (pv 0)) (re_var 2 (pv 2))) (rss_cons (rs_setFld hcl (re_var 0 (pv 0)) (re_callTy rl_tuple call_tuple_of rfl G.tuple (by decide +kernel) (ra_cons (re_var 3 (pv 3)) (ra_nil)))) (rss_cons (rs_setFld hcl (re_var 0 (pv 0)) (re_callTy rl_tuple call_tuple_of rfl G.tuple (by decide +kernel) (ra_cons (re_lc (tG := gTup K 3 (gNames [5, 6, 7])) (own := [("name", 5), ("price", 6), ("formula", 7)]) rfl sc_Book__init__.nd (ri_val (re_var 4 (pv 4))) (blkOk_by (own := [("name", 5), ("price", 6), ("formula", 7)]) (N := nm_Book__init__) (sc := defScope (met 58 0)) (by decide +kernel)) (by decide) (fun _ _ _ _ _ => (ptg_tup (is := [5, 6, 7]) rfl (pgs_cons (pg_name (i := 5) sc_Book__init__.nd rfl (by first | exact .inl rfl | exact .inr rfl)) (pgs_cons (pg_name (i := 6) sc_Book__init__.nd rfl (by first | exact .inl rfl | exact .inr rfl)) (pgs_cons (pg_name (i := 7) sc_Book__init__.nd rfl (by first | exact .inl rfl | exact .inr rfl)) (pgs_nil)))) rfl)) (fun _ _ _ _ _ => rts_nil) (fun _ _ _ _ _ => re_tup (ra_cons (re_var 5 (pv 5)) (ra_cons (re_var 6 (pv 6)) (ra_cons (re_var 7 (pv 7)) (ra_nil)))))) (ra_nil)))) (rss_cons (rs_set (i := 8) sc_Book__init__.nd rfl (by first | exact .inl rfl | exact .inr rfl) (re_cal C_first_bad_line_books hr (ra_cons (re_var 0 (pv 0)) (ra_nil)))) (rss_one (rs_if (rt_cmp (op_gt) (rr_gt) (re_var 8 (pv 8)) (re_int) (nomark _)) (rss_one (rs_never)) (rss_nil)))))))
def nm_Bookdeed : List Str := ["self", "name", "row"]
theorem sc_Bookdeed : FnScope nm_Bookdeed ["self", "name"] (defScope (met 58 1)) := ⟨rfl, rfl, rfl, by decide +kernel, rfl, by decide +kernel, by decide +kernel⟩
theorem d_Bookdeed {cl : CF} (G : Gb K w mg) (hcl : CfOk K cl) {C f : Addr} {fd : FuncData} (F : FunD K "deed" "Book.deed" (defArgs (met 58 1)) (defBody (met 58 1)) (defScope (met 58 1)) [] [] f fd) (cC : Cls K C) (cM : Meth K C "deed" f) {sp : DSp} (len : ∀ ds M Q E, sp ds M Q E → ds.length = 2)
    (hq : ∀ ds M Q E, sp ds M Q E → b_Bookdeed cl { nx := fun _ M' => Q .non M', rt := Q } (startD 3 ds) M) : CalM P w K mg base (k + 1) C "deed" ["self", "name"] sp := by
  refine calm_mk (N := nm_Bookdeed) F cC cM sc_Bookdeed (fun _ _ _ _ _ _ us hl => match us, hl with | [_, _], _ => rfl) (fun cdv A outer s H E hr => ?_) len hq
  have hu := hu66 hr
  have hu1 := hu_of hr
  exact rss_cons (rs_for PassesOwn.never rfl (ri_val (re_fld hcl (re_var 0 (pv 0)))) (ptg_name (pg_name (i := 2) sc_Bookdeed.nd rfl (by first | exact .inl rfl | exact .inr rfl))) (rss_one (rs_if (rt_cmp (op_eqA hu) (rr_eq) (re_ix (ix_all hu1) rr_ix (re_var 2 (pv 2)) (re_int) (fun _ _ => rfl)) (re_var 1 (pv 1)) (nomark _)) (rss_one (rs_ret (re_var 2 (pv 2)))) (rss_nil)))) (rss_one (rs_never))
def nm_Bookis_step : List Str := ["self", "step", "name", "sources", "word", "target", "row", "source"]
theorem sc_Bookis_step : FnScope nm_Bookis_step ["self", "step"] (defScope (met 58 2)) := ⟨rfl, rfl, rfl, by decide +kernel, rfl, by decide +kernel, by decide +kernel⟩
theorem d_Bookis_step {cl : CF} {s_source_count s_takes_word : DSp} (G : Gb K w mg) (hcl : CfOk K cl) (C_source_count : Cal P w K mg base k "source_count" ["formula"] s_source_count) (C_takes_word : Cal P w K mg base k "takes_word" ["formula"] s_takes_word) {C f : Addr} {fd : FuncData} (F : FunD K "is_step" "Book.is_step" (defArgs (met 58 2)) (defBody (met 58 2)) (defScope (met 58 2)) [] [] f fd) (cC : Cls K C) (cM : Meth K C "is_step" f) {sp : DSp} (len : ∀ ds M Q E, sp ds M Q E → ds.length = 2)
    (hq : ∀ ds M Q E, sp ds M Q E → b_Bookis_step cl s_source_count s_takes_word { nx := fun _ M' => Q .non M', rt := Q } (startD 8 ds) M) : CalM P w K mg base (k + 1) C "is_step" ["self", "step"] sp := by
  refine calm_mk (N := nm_Bookis_step) F cC cM sc_Bookis_step (fun _ _ _ _ _ _ us hl => match us, hl with | [_, _], _ => rfl) (fun cdv A outer s H E hr => ?_) len hq
  have hu := hu66 hr
  have hu1 := hu_of hr
  exact rss_cons (rs_asg (re_var 1 (pv 1)) (ptg_tup (is := [2, 3, 4, 5]) rfl (pgs_cons (pg_name (i := 2) sc_Bookis_step.nd rfl (by first | exact .inl rfl | exact .inr rfl)) (pgs_cons (pg_name (i := 3) sc_Bookis_step.nd rfl (by first | exact .inl rfl | exact .inr rfl)) (pgs_cons (pg_name (i := 4) sc_Bookis_step.nd rfl (by first | exact .inl rfl | exact .inr rfl)) (pgs_cons (pg_name (i := 5) sc_Bookis_step.nd rfl (by first | exact .inl rfl | exact .inr rfl)) (pgs_nil))))) rfl)) (rss_cons (rs_for PassesOwn.never rfl (ri_val (re_fld hcl (re_var 0 (pv 0)))) (ptg_name (pg_name (i := 6) sc_Bookis_step.nd rfl (by first | exact .inl rfl | exact .inr rfl))) (rss_one (rs_if (rt_cmp (op_eqA hu) (rr_eq) (re_ix (ix_all hu1) rr_ix (re_var 6 (pv 6)) (re_int) (fun _ _ => rfl)) (re_var 2 (pv 2)) (nomark _)) (rss_cons (rs_if (PW.pt (rw_or (rt_cmp (op_neA hu) (rr_ne) (re_callB rl_len call_lenA rfl G.len (by decide +kernel) (ra_cons (re_var 3 (pv 3)) (ra_nil))) (re_cal C_source_count hr (ra_cons (re_ix (ix_all hu1) rr_ix (re_var 6 (pv 6)) (re_int) (fun _ _ => rfl)) (ra_nil))) (nomark _)) (rw_or1 (rt_not (rt_chain (op_le) (rr_le) (op_lt) (rr_lt) (re_int) (re_var 5 (pv 5)) (re_fld hcl (re_var 0 (pv 0)))))))) (rss_one (rs_ret (re_bl))) (rss_nil)) (rss_cons (rs_if (PW.pt (rw_or (rt_cmp (op_neA hu) (rr_ne) (re_cal C_takes_word hr (ra_cons (re_ix (ix_all hu1) rr_ix (re_var 6 (pv 6)) (re_int) (fun _ _ => rfl)) (ra_nil))) (re_cmp (op_isnotA) (rr_is (neg := true)) (re_var 4 (pv 4)) (re_non) (nomark _)) (nomark _)) (rw_or1 (PW.pt (rw_and (rt_cmp (op_isnotA) (rr_is (neg := true)) (re_var 4 (pv 4)) (re_non) (nomark _)) (rw_and1 (rt_cmp (op_notInA hu1) (rr_in (neg := true)) (re_var 4 (pv 4)) (re_fld hcl (re_var 0 (pv 0))) rfl))))))) (rss_one (rs_ret (re_bl))) (rss_nil)) (rss_one (rs_ret (re_callB rl_all (cr_all rfl) rfl G.all (by decide +kernel) (ra_cons (re_lc (own := [("source", 7)]) rfl sc_Bookis_step.nd (ri_val (re_var 3 (pv 3))) (blkOk_by (own := [("source", 7)]) (N := nm_Bookis_step) (sc := defScope (met 58 2)) (by decide +kernel)) (by decide) (fun _ _ _ _ _ => (ptg_name (pg_name (i := 7) sc_Bookis_step.nd rfl (by first | exact .inl rfl | exact .inr rfl)))) (fun _ _ _ _ _ => rts_nil) (fun _ _ _ _ _ => re_chain (op_le) (rr_le) (op_lt) (rr_lt) (re_int) (re_var 7 (pv 7)) (re_fld hcl (re_var 0 (pv 0))))) (ra_nil))))))) (rss_nil)))) (rss_one (rs_ret (re_bl))))
def nm_window_places : List Str := ["many", "size", "at", "length"]
theorem sc_window_places : GScope nm_window_places ["many", "size"] (defScope (top 51)) := ⟨rfl, rfl, rfl, by decide +kernel, rfl, by decide +kernel, by decide +kernel⟩
theorem d_window_places (G : Gb K w mg) {f : Addr} {fd : FuncData} (F : FunD K "window_places" "window_places" (defArgs (top 51)) (defBody (top 51)) (defScope (top 51)) [] [] f fd) (hm : mg "window_places" = some (.ref f)) : DG.CalW P w K mg base (k + 1) "window_places" ["many", "size"] := by
  refine DG.calw_mk (N := nm_window_places) F hm sc_window_places rfl rfl (fun _ => rfl) (fun _ _ _ _ _ _ us hl => match us, hl with | [_, _], _ => rfl) ?_
  rintro ⟨P', w', K', mg', base', N', qual', scope', f', cd, A, outer, L, os, items, pin⟩ many size ok rfl rfl rfl rfl rfl rfl rfl rfl hit hm1 hs1 hr
  refine ⟨_, DG.gss2_one (DG.gs2_for (i := 2) ok sc_window_places.nd rfl (.inl rfl) (DG.gss2_one (DG.gs2_for (i := 3) ok sc_window_places.nd rfl (.inl rfl) (DG.gss2_one (DG.gs2_yield ok fun sw => pe_tup (pa_cons (pv 2) (pa_cons (pv 3) pa_nil))))))), ?_⟩
  refine DG.wins_run hit (fun sw x y z => ?_) (fun sw a z ha => ?_)
  · exact DG.rge1 (j := (many : Int)) rfl G.range (pa_cons (pv 0) pa_nil) (fun H => ⟨_, rfl, rfl⟩) (by omega) (by omega)
  · have e := DG.wlen_int (many := many) (size := size) ha
    refine DG.rge2' e rfl G.range (pa_cons pe_int (pa_cons (pe_op op_add (pe_callB (call_min2 rfl) rfl G.min (by decide +kernel) (pa_cons (pv 1) (pa_cons (pe_op op_sub (pv 0) (pv 2)) pa_nil))) pe_int) pa_nil)) (fun H => ?_) (by omega) (by omega) ?_ ?_
    · refine ⟨_, rfl, _, rfl, _, rfl, ?_⟩
      refine ⟨_, _, rfl, rfl, ?_⟩
      refine ⟨_, _, rfl, ?_⟩
      exact ⟨_, _, rfl, rfl, rfl⟩
    · split <;> omega
    · split <;> omega
end
end K78

set_option Elab.async false
set_option linter.all false
set_option autoImplicit false
set_option maxRecDepth 100000
set_option maxHeartbeats 4000000
/-! readings: words and operations -/
namespace Rd
open PySem PySem.Spec PyProof.Rows L2 DH Bd
theorem qd {Q : DQ} {d d' : D} {M : Mm} (h : Q d M) (e : d' = d) : Q d' M := by rw [e]; exact h
theorem qi {Q : DQ} {a b : Int} {M : Mm} (h : Q (.int b) M) (e : a = b) : Q (.int a) M := by rw [e]; exact h
theorem qb {Q : DQ} {a b : Bool} {M : Mm} (h : Q (.bl b) M) (e : a = b) : Q (.bl a) M := by rw [e]; exact h
abbrev En (Q : DQ) : DEnds := { nx := fun _ M' => Q .non M', rt := Q }
/-! ### words -/
def sp_word_limit : DSp := fun ds M Q _ => ∃ w : Nat, ds = [.int w] ∧ w ≤ 1000 ∧ Q (.int ((2 ^ w : Nat) : Int)) M
theorem pow_cast (w : Nat) : (1 : Int) * 2 ^ ((w : Int).toNat) = ((2 ^ w : Nat) : Int) := by
  rw [Int.toNat_natCast, Int.one_mul]; norm_cast
theorem cpow {i : Int} (w : Nat) (hw : w ≤ 1000) (hi : i.natAbs < 2 ^ 64) : CPow i (w : Int) := ⟨by omega, by omega, hi⟩
theorem r_word_limit : ∀ ds M Q E, sp_word_limit ds M Q E → b_word_limit (En Q) (startD 1 ds) M := by
  rintro ds M Q E ⟨w, rfl, hw, h⟩
  exact ⟨cpow w hw (by decide), qi h (pow_cast w)⟩
def sgn (w : Nat) (x : Nat) : Int := if x ≥ 2 ^ w / 2 then (x : Int) - (2 ^ w : Nat) else x
def sp_signed_value : DSp := fun ds M Q _ => ∃ w x : Nat, ds = [.int w, .int x] ∧ w ≤ 1000 ∧ Q (.int (sgn w x)) M
theorem r_signed_value : ∀ ds M Q E, sp_signed_value ds M Q E → b_signed_value sp_word_limit (En Q) (startD 2 ds) M := by
  rintro ds M Q E ⟨w, x, rfl, hw, h⟩
  refine ⟨w, rfl, hw, ⟨by decide, by decide⟩, fun hb => ?_, fun hb => ?_⟩
  · have hb := of_decide_eq_true hb
    refine ⟨w, rfl, hw, ?_⟩
    refine qi h ?_
    unfold sgn
    rw [if_pos (by omega)]
  · have hb := of_decide_eq_false hb
    refine qi h ?_
    unfold sgn
    rw [if_neg (by omega)]
/-- the operations -/
inductive Op where
  | not | neg | and | or | xor | add | sub | mul | shl | shr | eq | lt | slt | pick
  deriving DecidableEq
def Op.nm : Op → Str
  | .not => "not" | .neg => "neg" | .and => "and" | .or => "or" | .xor => "xor" | .add => "add" | .sub => "sub" | .mul => "mul" | .shl => "shl" | .shr => "shr" | .eq => "eq" | .lt => "lt" | .slt => "slt" | .pick => "pick"
def Op.ar : Op → Nat
  | .not => 1 | .neg => 1 | .pick => 3 | _ => 2
def b2n (b : Bool) : Nat := if b then 1 else 0
/-- what an operation yields -/
def Op.v (w : Nat) : Op → List Nat → Nat
  | .not, [x] => 2 ^ w - 1 - x
  | .neg, [x] => (2 ^ w - x) % 2 ^ w
  | .and, [x, y] => x &&& y
  | .or, [x, y] => x ||| y
  | .xor, [x, y] => x ^^^ y
  | .add, [x, y] => (x + y) % 2 ^ w
  | .sub, [x, y] => (x + 2 ^ w - y) % 2 ^ w
  | .mul, [x, y] => x * y % 2 ^ w
  | .shl, [x, y] => x * 2 ^ y % 2 ^ w
  | .shr, [x, y] => x / 2 ^ y
  | .eq, [x, y] => b2n (x == y)
  | .lt, [x, y] => b2n (decide (x < y))
  | .slt, [x, y] => b2n (decide (sgn w x < sgn w y))
  | .pick, [x, y, z] => if x = 0 then z else y
  | _, _ => 0
def sp_operate_one : DSp := fun ds M Q _ => ∃ (o : Op) (w x : Nat), ds = [.str o.nm, .int w, .int x] ∧ o.ar = 1 ∧ 1 ≤ w ∧ w ≤ 4 ∧ x < 2 ^ w ∧ Q (.int (o.v w [x])) M
theorem sm {w x : Nat} (hw : w ≤ 4) (hx : x < 2 ^ w) : x < 16 := Nat.lt_of_lt_of_le hx (Nat.pow_le_pow_right (by decide) hw)
theorem neg_ok : ∀ w : Fin 5, ∀ x : Fin 16, x.1 < 2 ^ w.1 → Builtin.bitAnd (((2 ^ w.1 : Nat) : Int) - (x.1 : Int)) (((2 ^ w.1 : Nat) : Int) - 1) = ((Op.neg.v w.1 [x.1] : Nat) : Int) := by decide +kernel
theorem r_operate_one : ∀ ds M Q E, sp_operate_one ds M Q E → b_operate_one sp_word_limit (En Q) (startD 3 ds) M := by
  rintro ds M Q E ⟨o, w, x, rfl, ha, h1, h4, hx, h⟩
  refine ⟨fun hb => ⟨w, rfl, by omega, ?_⟩, fun hb => ⟨w, rfl, by omega, w, rfl, by omega, ?_⟩⟩
  · cases o <;> first | (exact absurd ha (by decide)) | (exact absurd hb (by decide)) | skip
    refine qi h ?_
    show ((2 ^ w : Nat) : Int) - 1 - (x : Int) = ((2 ^ w - 1 - x : Nat) : Int)
    omega
  · cases o <;> first | (exact absurd ha (by decide)) | (exact absurd hb (by decide)) | skip
    exact qi h (neg_ok ⟨w, by omega⟩ ⟨x, sm h4 hx⟩ hx)
def sp_operate_bits : DSp := fun ds M Q _ => ∃ (o : Op) (w x y : Nat), ds = [.str o.nm, .int x, .int y] ∧ (o = .and ∨ o = .or ∨ o = .xor) ∧ w ≤ 4 ∧ x < 2 ^ w ∧ y < 2 ^ w ∧ Q (.int (o.v w [x, y])) M
theorem and_ok (x y : Nat) : Builtin.bitAnd (x : Int) (y : Int) = ((x &&& y : Nat) : Int) := by
  unfold Builtin.bitAnd
  rw [show decide ((0 : Int) ≤ (x : Int)) = true from decide_eq_true (by omega), show decide ((0 : Int) ≤ (y : Int)) = true from decide_eq_true (by omega)]
  rfl
theorem or_ok : ∀ x y : Fin 16, Builtin.bitOr (x.1 : Int) (y.1 : Int) = ((x.1 ||| y.1 : Nat) : Int) := by decide +kernel
theorem xor_ok : ∀ x y : Fin 16, Builtin.bitXor (x.1 : Int) (y.1 : Int) = ((x.1 ^^^ y.1 : Nat) : Int) := by decide +kernel
theorem r_operate_bits : ∀ ds M Q E, sp_operate_bits ds M Q E → b_operate_bits (En Q) (startD 3 ds) M := by
  rintro ds M Q E ⟨o, w, x, y, rfl, ho, h4, hx, hy, h⟩
  refine ⟨fun hb => ?_, fun hb => ⟨fun hc => ?_, fun hc => ?_⟩⟩
  · rcases ho with rfl | rfl | rfl <;> first | (exact absurd hb (by decide)) | skip
    exact qi h (and_ok x y)
  · rcases ho with rfl | rfl | rfl <;> first | (exact absurd hc (by decide)) | skip
    exact qi h (or_ok ⟨x, sm h4 hx⟩ ⟨y, sm h4 hy⟩)
  · rcases ho with rfl | rfl | rfl <;> first | (exact absurd hc (by decide)) | (exact absurd hb (by decide)) | skip
    exact qi h (xor_ok ⟨x, sm h4 hx⟩ ⟨y, sm h4 hy⟩)
def sp_operate_sum : DSp := fun ds M Q _ => ∃ (o : Op) (w x y : Nat), ds = [.str o.nm, .int w, .int x, .int y] ∧ (o = .add ∨ o = .sub ∨ o = .mul ∨ o = .shl ∨ o = .shr) ∧ w ≤ 4 ∧ x < 2 ^ w ∧ y < 2 ^ w ∧ Q (.int (o.v w [x, y])) M
theorem mask_ok : ∀ w : Fin 5, ∀ x y : Fin 16, y.1 < 2 ^ w.1 → Builtin.bitAnd ((x.1 : Int) + (y.1 : Int)) (((2 ^ w.1 : Nat) : Int) - 1) = ((Op.add.v w.1 [x.1, y.1] : Nat) : Int) ∧ Builtin.bitAnd ((x.1 : Int) - (y.1 : Int)) (((2 ^ w.1 : Nat) : Int) - 1) = ((Op.sub.v w.1 [x.1, y.1] : Nat) : Int) ∧
    Builtin.bitAnd ((x.1 : Int) * (y.1 : Int)) (((2 ^ w.1 : Nat) : Int) - 1) = ((Op.mul.v w.1 [x.1, y.1] : Nat) : Int) ∧ Builtin.bitAnd ((x.1 : Int) * 2 ^ (y.1 : Int).toNat) (((2 ^ w.1 : Nat) : Int) - 1) = ((Op.shl.v w.1 [x.1, y.1] : Nat) : Int) := by decide +kernel
theorem shr_ok (x y : Nat) : (x : Int) / 2 ^ (y : Int).toNat = ((x / 2 ^ y : Nat) : Int) := by
  rw [Int.toNat_natCast]; norm_cast
theorem r_operate_sum : ∀ ds M Q E, sp_operate_sum ds M Q E → b_operate_sum sp_word_limit (En Q) (startD 5 ds) M := by
  rintro ds M Q E ⟨o, w, x, y, rfl, ho, h4, hx, hy, h⟩
  have hx6 := sm h4 hx
  have hy6 := sm h4 hy
  have g := mask_ok ⟨w, by omega⟩ ⟨x, hx6⟩ ⟨y, hy6⟩ hy
  refine ⟨w, rfl, by omega, fun ha => ?_, fun ha => ⟨fun hb => ?_, fun hb => ⟨fun hc => ⟨.inl ⟨by omega, by omega⟩, ?_⟩, fun hc => ⟨fun hd => ⟨⟨by omega, by omega, by omega⟩, ?_⟩, fun hd => ⟨by omega, ?_⟩⟩⟩⟩⟩
  · rcases ho with rfl | rfl | rfl | rfl | rfl <;> first | (exact absurd ha (by decide)) | skip
    exact qi h g.1
  · rcases ho with rfl | rfl | rfl | rfl | rfl <;> first | (exact absurd hb (by decide)) | skip
    exact qi h g.2.1
  · rcases ho with rfl | rfl | rfl | rfl | rfl <;> first | (exact absurd hc (by decide)) | skip
    exact qi h g.2.2.1
  · rcases ho with rfl | rfl | rfl | rfl | rfl <;> first | (exact absurd hd (by decide)) | skip
    exact qi h g.2.2.2
  · rcases ho with rfl | rfl | rfl | rfl | rfl <;> first | (exact absurd ha (by decide)) | (exact absurd hb (by decide)) | (exact absurd hc (by decide)) | (exact absurd hd (by decide)) | skip
    exact qi h (shr_ok x y)
def sp_operate_order : DSp := fun ds M Q _ => ∃ (o : Op) (w x y : Nat), ds = [.str o.nm, .int w, .int x, .int y] ∧ (o = .eq ∨ o = .lt ∨ o = .slt) ∧ w ≤ 4 ∧ x < 2 ^ w ∧ y < 2 ^ w ∧ Q (.int (o.v w [x, y])) M
theorem bi_ok (b c : Bool) (h : b = c) : (if b = true then (1 : Int) else 0) = ((b2n c : Nat) : Int) := by
  subst h; cases b <;> rfl
theorem r_operate_order : ∀ ds M Q E, sp_operate_order ds M Q E → b_operate_order sp_signed_value (En Q) (startD 4 ds) M := by
  rintro ds M Q E ⟨o, w, x, y, rfl, ho, h4, hx, hy, h⟩
  refine ⟨fun ha => ?_, fun ha => ⟨fun hb => ?_, fun hb => ⟨w, x, rfl, by omega, w, y, rfl, by omega, ?_⟩⟩⟩
  · rcases ho with rfl | rfl | rfl <;> first | (exact absurd ha (by decide)) | skip
    refine qi h (bi_ok _ _ ?_)
    rw [Bool.eq_iff_iff]; simp; omega
  · rcases ho with rfl | rfl | rfl <;> first | (exact absurd hb (by decide)) | skip
    refine qi h (bi_ok _ _ ?_)
    rw [Bool.eq_iff_iff]; simp
  · rcases ho with rfl | rfl | rfl <;> first | (exact absurd ha (by decide)) | (exact absurd hb (by decide)) | skip
    exact qi h (bi_ok _ _ rfl)
/-- the arguments of an operation as a list object or a tuple -/
def SeqM (M : Mm) (d : D) (ds : List D) : Prop := d = .tup ds ∨ ∃ a, d = .ref a ∧ IsL M a ds
abbrev wds (xs : List Nat) : List D := xs.map fun x : Nat => D.int (x : Int)
def sp_operate : DSp := fun ds M Q _ => ∃ (o : Op) (w : Nat) (xs : List Nat) (d : D), ds = [.str o.nm, .int w, d] ∧ SeqM M d (wds xs) ∧ xs.length = o.ar ∧ 1 ≤ w ∧ w ≤ 4 ∧ (∀ x ∈ xs, x < 2 ^ w) ∧ Q (.int (o.v w xs)) M
local macro_rules | `(tactic| walk_at "dx") => `(tactic| first | (refine ⟨_, rfl, ?_⟩) | (refine Or.inl ⟨_, _, _, by assumption, rfl, rfl, ?_⟩))
local macro_rules | `(tactic| walk_at "dl") => `(tactic| first | (refine Or.inl ⟨_, by assumption, ?_⟩) | skip)
theorem r_operate : ∀ ds M Q E, sp_operate ds M Q E → b_operate sp_operate_one sp_operate_bits sp_operate_order sp_operate_sum (En Q) (startD 3 ds) M := by
  rintro ds M Q E ⟨o, w, xs, d, rfl, hs, hl, h1, h4, hx, h⟩
  rcases hs with rfl | ⟨a, rfl, ha⟩
  all_goals
    refine ⟨fun hp => ?_, fun hp => ?_⟩
    · cases o <;> first | (exact absurd hp (by decide)) | skip
      obtain ⟨x, y, z, rfl⟩ : ∃ x y z, xs = [x, y, z] := by
        match xs, hl with
        | [x, y, z], _ => exact ⟨x, y, z, rfl⟩
      walk_at "dx"
      refine ⟨fun hb => ?_, fun hb => ?_⟩
      · walk_at "dx"
        have : x ≠ 0 := fun e => by subst e; exact absurd hb (by decide)
        refine qi h ?_
        show (y : Int) = ((if x = 0 then z else y : Nat) : Int)
        rw [if_neg this]
      · walk_at "dx"
        have : x = 0 := by simpa using hb
        refine qi h ?_
        show (z : Int) = ((if x = 0 then z else y : Nat) : Int)
        rw [if_pos this]
    · walk_at "dl"
      refine ⟨fun hb => ?_, fun hb => ?_⟩
      · have hb := of_decide_eq_true hb
        rw [List.length_map] at hb
        obtain ⟨x, rfl⟩ : ∃ x, xs = [x] := by
          match xs, hb with
          | [x], _ => exact ⟨x, rfl⟩
        walk_at "dx"
        exact ⟨o, w, x, rfl, hl.symm, h1, h4, hx x (by simp), h⟩
      · have hb := of_decide_eq_false hb
        rw [List.length_map] at hb
        have hne : o ≠ .pick := fun e => by subst e; exact absurd hp (by decide)
        have h2 : o.ar = 2 := by cases o <;> first | rfl | (exact absurd rfl hne) | (exfalso; apply hb; rw [hl]; rfl)
        obtain ⟨x, y, rfl⟩ : ∃ x y, xs = [x, y] := by
          rw [h2] at hl
          match xs, hl with
          | [x, y], _ => exact ⟨x, y, rfl⟩
        have hx1 := hx x (by simp)
        have hy1 := hx y (by simp)
        refine ⟨by decide, rfl, rfl, fun hc => ?_, fun hc => ⟨by decide, rfl, rfl, fun hd => ?_, fun hd => ?_⟩⟩
        · walk_at "dx"
          walk_at "dx"
          refine ⟨o, w, x, y, rfl, ?_, h4, hx1, hy1, h⟩
          cases o <;> first | (exact absurd hc (by decide)) | simp
        · walk_at "dx"
          walk_at "dx"
          refine ⟨o, w, x, y, rfl, ?_, h4, hx1, hy1, h⟩
          cases o <;> first | (exact absurd hd (by decide)) | simp
        · walk_at "dx"
          walk_at "dx"
          refine ⟨o, w, x, y, rfl, ?_, h4, hx1, hy1, h⟩
          cases o <;> first | (exact absurd h2 (by decide)) | (exact absurd hc (by decide)) | (exact absurd hd (by decide)) | simp
end Rd

set_option Elab.async false
set_option linter.all false
set_option autoImplicit false
set_option maxRecDepth 100000
set_option maxHeartbeats 4000000
/-! readings: formulas -/
namespace Rd
open PySem PySem.Spec PyProof.Rows L2 DH Bd
/-! ### lists -/
theorem cut1 {ds : List D} : cutL D ds (some 1) none = ds.drop 1 := by
  unfold cutL
  rw [show HT.sIx ds.length 0 (some 1) = min 1 ds.length from HT.sIx_nat ds.length 0 1, HT.sIx_none]
  cases ds with
  | nil => rfl
  | cons x r =>
    rw [show min 1 (x :: r).length = 1 by rw [List.length_cons]; omega]
    show List.take ((x :: r).length - 1) r = r
    rw [List.length_cons, Nat.add_sub_cancel]
    exact List.take_length
theorem take_snoc {α : Type} {l : List α} {i : Nat} {x : α} (h : l[i]? = some x) : l.take (i + 1) = l.take i ++ [x] := by
  rw [List.take_add_one, h]; rfl
theorem mem_at {α : Type} {l : List α} {i : Nat} {x : α} (h : l[i]? = some x) : x ∈ l := List.mem_of_getElem? h
theorem lt_at {α : Type} {l : List α} {i : Nat} {x : α} (h : l[i]? = some x) : i < l.length := (List.getElem?_eq_some_iff.mp h).1
theorem at0 {α : Type} {x : α} {r : List α} : atI (x :: r) 0 = some x := atI_nat (j := 0) rfl
/-! ### trees of numbers, texts and tuples -/
mutual
def tree : D → Bool
  | .int _ | .str _ => true
  | .tup ds => trees ds
  | _ => false
def trees : List D → Bool
  | [] => true
  | d :: ds => tree d && trees ds
end
mutual
def sizeD : D → Nat
  | .tup (_ :: t) => 1 + sizeDs t
  | _ => 1
def sizeDs : List D → Nat
  | [] => 0
  | d :: ds => sizeD d + sizeDs ds
end
mutual
def depthD : D → Nat
  | .tup [] => 1
  | .tup (_ :: t) => depthDs t + 1
  | _ => 0
def depthDs : List D → Nat
  | [] => 0
  | d :: ds => max (depthD d) (depthDs ds)
end
theorem trees_mem : ∀ {ds : List D}, trees ds = true → ∀ d ∈ ds, tree d = true
  | [], _, _, h => by cases h
  | e :: ds, ht, d, h => by
    unfold trees at ht
    obtain ⟨h1, h2⟩ := Bool.and_eq_true_iff.mp ht
    rcases List.mem_cons.mp h with rfl | h
    · exact h1
    · exact trees_mem h2 d h
theorem sizeDs_snoc : ∀ (ds : List D) (d : D), sizeDs (ds ++ [d]) = sizeDs ds + sizeD d
  | [], d => by simp [sizeDs]
  | e :: ds, d => by
    have := sizeDs_snoc ds d
    simp only [List.cons_append, sizeDs, this]; omega
theorem depthD_mem : ∀ {ds : List D} {d : D}, d ∈ ds → depthD d ≤ depthDs ds
  | [], _, h => by cases h
  | e :: ds, d, h => by
    rcases List.mem_cons.mp h with rfl | h
    · simp only [depthDs]; omega
    · have := depthD_mem h
      simp only [depthDs]; omega
theorem sizeD_tup (ds : List D) : sizeD (.tup ds) = 1 + sizeDs (ds.drop 1) := by
  cases ds with
  | nil => rfl
  | cons x t => simp only [sizeD, List.drop_succ_cons, List.drop_zero]
theorem depthD_tup (ds : List D) : depthD (.tup ds) = depthDs (ds.drop 1) + 1 := by
  cases ds with
  | nil => rfl
  | cons x t => simp only [depthD, List.drop_succ_cons, List.drop_zero]
theorem drop_mem {ds : List D} {d : D} (h : d ∈ ds.drop 1) : d ∈ ds := List.mem_of_mem_drop h
theorem tree_tup {ds : List D} (h : tree (.tup ds) = true) : ∀ d ∈ ds, tree d = true := trees_mem (by unfold tree at h; exact h)
/-! ### size -/
def sp_size (n : Nat) : DSp := fun ds M Q _ => ∃ d, ds = [d] ∧ tree d = true ∧ depthD d < n ∧ Q (.int (sizeD d)) M
theorem r_formula_size (n : Nat) : ∀ ds M Q E, sp_size (n + 1) ds M Q E → b_formula_size (sp_size n) (En Q) (startD 3 ds) M := by
  rintro ds M Q E ⟨d, rfl, ht, hn, h⟩
  cases d with
  | int i => exact ⟨fun _ => h, fun hc => absurd hc (by decide)⟩
  | str i => exact ⟨fun _ => h, fun hc => absurd hc (by decide)⟩
  | tup ds =>
    refine ⟨fun hc => absurd hc (by decide), fun _ => ?_⟩
    refine ⟨fun i E M' => M' = M ∧ ∃ x, E = [some (.tup ds), some (.int ((1 + sizeDs ((ds.drop 1).take i) : Nat) : Int)), x], ⟨rfl, none, rfl⟩, fun _ _ _ _ => trivial, ?_, ?_⟩
    · rintro i E M' d hd ⟨rfl, x, rfl⟩
      rw [cut1] at hd
      have hm := mem_at hd
      have h1 := depthD_mem hm
      rw [depthD_tup] at hn
      refine ⟨d, rfl, tree_tup ht d (drop_mem hm), by omega, rfl, some d, ?_⟩
      rw [take_snoc hd, sizeDs_snoc]
      refine congrArg (fun z => [some (D.tup ds), some (D.int z), some d]) ?_
      omega
    · rintro E M' ⟨rfl, x, rfl⟩
      refine qi h ?_
      rw [cut1, List.take_length, sizeD_tup]
  | _ => simp [tree] at ht
/-! ### depth -/
/-! ### names -/
def lowers : Str := "abcdefghijklmnopqrstuvwxyz"
def digits : Str := "0123456789"
def low (c : Nat) : Bool := decide (c ∈ lowers.cps.toList)
def dig (c : Nat) : Bool := decide (c ∈ digits.cps.toList)
/-- a name -/
def nameL : List Nat → Bool
  | [] => false
  | c :: r => decide (r.length ≤ 5) && low c && r.all fun x => low x || dig x
def isNameS (s : Str) : Bool := nameL s.cps.toList
def sp_is_name : DSp := fun ds M Q _ => ∃ s : Str, ds = [.str s] ∧ s.length ≤ 1000 ∧ Q (.bl (isNameS s)) M
theorem str_len (s : Str) : s.cps.toList.length = s.length := by simp [Str.length]
theorem small_line {n : Nat} (h : n ≤ 1000) : n ≤ sizeLine := Nat.le_of_lt (small1000 h)
local macro_rules | `(tactic| walk_at "if") => `(tactic| first | (refine ⟨fun _ => ?_, fun hc => absurd hc (by decide)⟩) | (refine ⟨fun hc => absurd hc (by decide), fun _ => ?_⟩))
theorem strD_at {s : Str} {i : Nat} {d : D} (h : (strD s)[i]? = some d) : ∃ c, s.cps.toList[i]? = some c ∧ d = .str ⟨#[c]⟩ := by
  unfold strD at h
  rw [List.getElem?_map] at h
  obtain ⟨c, h1, h2⟩ := Option.map_eq_some_iff.mp h
  exact ⟨c, h1, h2.symm⟩
theorem strD_len (s : Str) : (strD s).length = s.cps.toList.length := by unfold strD; rw [List.length_map]
theorem r_is_name : ∀ ds M Q E, sp_is_name ds M Q E → b_is_name (En Q) (startD 2 ds) M := by
  rintro ds M Q E ⟨s, rfl, hl, h⟩
  have e1 := str_len s
  have hl2 := small_line hl
  unfold isNameS at h
  refine ⟨hl2, fun h1 => ⟨fun h2 => ?_, fun h2 => ?_⟩, fun h1 => ?_⟩
  · walk_at "if"
    have h2 : ¬ ((s.length : Int) ≤ 6) := by simpa using h2
    refine qb h ?_
    cases e : s.cps.toList with
    | nil => rfl
    | cons c r =>
      rw [e, List.length_cons] at e1
      simp only [nameL]
      rw [decide_eq_false (by omega)]; rfl
  · have h1 := of_decide_eq_true h1
    have h2 : (s.length : Int) ≤ 6 := by simpa using h2
    cases e : s.cps.toList with
    | nil => rw [e, List.length_nil] at e1; omega
    | cons c r =>
      rw [e, List.length_cons] at e1
      have hr : decide (r.length ≤ 5) = true := decide_eq_true (by omega)
      refine ⟨hl2, c, by rw [e]; exact at0, c, rfl, fun h3 => ?_, fun h3 => ?_⟩
      · refine qb h ?_
        rw [e]
        have h3 : low c = false := by simpa [low, lowers] using h3
        simp only [nameL, h3, Bool.and_false, Bool.false_and]
      · have h3 : low c = true := by simpa [low, lowers] using h3
        refine ⟨fun i E M' => M' = M ∧ (∃ x, E = [some (.str s), x]) ∧ ((s.cps.toList.take i).all fun x => low x || dig x) = true, ⟨rfl, ⟨none, rfl⟩, rfl⟩, fun _ _ _ _ => trivial, ?_, ?_⟩
        · rintro i E M' d hd ⟨rfl, ⟨x, rfl⟩, ha⟩
          obtain ⟨c', hc, rfl⟩ := strD_at hd
          have st : low c' = true ∨ dig c' = true → ((s.cps.toList.take (i + 1)).all fun x => low x || dig x) = true := fun q => by
            rw [take_snoc hc, List.all_append, ha]
            simpa using q
          refine ⟨c', rfl, fun h4 => ⟨c', rfl, fun h5 => ?_, fun h5 => ⟨rfl, ⟨_, rfl⟩, st (.inr (by simpa [dig, digits] using h5))⟩⟩, fun h4 => ?_⟩
          · refine qb h ?_
            have h4 : low c' = false := by simpa [low, lowers] using h4
            have h5 : dig c' = false := by simpa [dig, digits] using h5
            rw [e] at hc ⊢
            simp only [nameL, hr, h3, Bool.true_and]
            cases i with
            | zero =>
              have : c = c' := by simpa using hc
              subst this
              rw [h3] at h4; cases h4
            | succ i =>
              have hm : c' ∈ r := mem_at (i := i) (by simpa using hc)
              exact (List.all_eq_false.mpr ⟨c', hm, by rw [h4, h5]; decide⟩).symm
          · walk_at "if"
            exact ⟨rfl, ⟨_, rfl⟩, st (.inl (by simpa [low, lowers] using h4))⟩
        · rintro E M' ⟨rfl, ⟨x, rfl⟩, ha⟩
          refine qb h ?_
          rw [strD_len, List.take_length] at ha
          rw [e] at ha ⊢
          rw [List.all_cons] at ha
          simp only [nameL, hr, h3, Bool.true_and]
          exact (Bool.and_eq_true_iff.mp ha).2.symm
  · walk_at "if"
    walk_at "if"
    have h1 := of_decide_eq_false h1
    refine qb h ?_
    cases e : s.cps.toList with
    | nil => rfl
    | cons c r => rw [e, List.length_cons] at e1; omega
end Rd

set_option Elab.async false
set_option linter.all false
set_option autoImplicit false
set_option maxRecDepth 100000
set_option maxHeartbeats 4000000
/-! readings: shapes, names -/
namespace Rd
open PySem PySem.Spec PyProof.Rows L2 DH Bd
local macro_rules | `(tactic| walk_at "if") => `(tactic| first | (refine ⟨fun _ => ?_, fun hc => absurd hc (by decide)⟩) | (refine ⟨fun hc => absurd hc (by decide), fun _ => ?_⟩))
/-! ### operations by name -/
def ops : List Op := [.not, .neg, .and, .or, .xor, .add, .sub, .mul, .shl, .shr, .eq, .lt, .slt, .pick]
def opOf (s : Str) : Option Op := ops.find? fun o => s == o.nm
theorem arity_map : kv_ARITY = ops.map fun o => (o.nm, D.int o.ar) := rfl
theorem lookup_map {α β κ : Type} [BEq κ] (f : α → κ) (g : α → β) (s : κ) : ∀ l : List α, (l.map fun a => (f a, g a)).lookup s = (l.find? fun a => s == f a).map g
  | [] => rfl
  | a :: r => by
    rw [List.map_cons, List.lookup_cons, List.find?_cons]
    cases s == f a with
    | true => rfl
    | false => exact lookup_map f g s r
theorem arity_look (s : Str) : kv_ARITY.lookup s = (opOf s).map fun o => D.int o.ar := by
  rw [arity_map, lookup_map]; rfl
theorem opOf_nm {s : Str} {o : Op} (h : opOf s = some o) : s = o.nm := by
  have := List.find?_some h
  exact eq_of_beq this
theorem opOf_of (o : Op) : opOf o.nm = some o := by cases o <;> decide +kernel
def isOpS (s : Str) : Bool := (opOf s).isSome
theorem arity_some (s : Str) : (kv_ARITY.lookup s).isSome = isOpS s := by
  rw [arity_look]; unfold isOpS; cases opOf s <;> rfl
def sp_is_value_name : DSp := fun ds M Q _ => ∃ s : Str, ds = [.str s] ∧ s.length ≤ 1000 ∧ Q (.bl (isNameS s && !isOpS s)) M
theorem r_is_value_name : ∀ ds M Q E, sp_is_value_name ds M Q E → b_is_value_name sp_is_name (En Q) (startD 1 ds) M := by
  rintro ds M Q E ⟨s, rfl, hl, h⟩
  refine ⟨s, rfl, hl, fun hb => ?_, fun hb => ?_⟩
  · refine qb h ?_
    show (if true = true then !(kv_ARITY.lookup s).isSome else _) = _
    rw [if_pos rfl, arity_some, hb, Bool.true_and]
  · exact qb h (by rw [hb, Bool.false_and])
/-! ### shape -/
def shapedD (w : Nat) (nms : List Str) : Nat → D → Bool
  | _, .int i => decide (0 ≤ i) && decide (i < (2 ^ w : Nat))
  | _, .str s => decide (s ∈ nms)
  | k + 1, .tup (.str s :: t) => (match opOf s with
    | some o => t.length == o.ar && t.all (shapedD w nms k)
    | none => false)
  | _, _ => false
theorem inD_strs (s : Str) (nms : List Str) : inD (.str s) (nms.map D.str) = decide (s ∈ nms) := by
  induction nms with
  | nil => rfl
  | cons x r ih =>
    unfold inD at ih ⊢
    rw [List.map_cons, List.any_cons, ih]
    show (x == s || _) = _
    rw [Bool.eq_iff_iff]
    simp only [Bool.or_eq_true, beq_iff_eq, decide_eq_true_eq, List.mem_cons]
    exact ⟨fun h => h.imp Eq.symm id, fun h => h.imp Eq.symm id⟩
theorem flat_strs (nms : List Str) : (nms.map D.str).all flatD = true := by
  rw [List.all_eq_true]
  intro d hd
  obtain ⟨s, _, rfl⟩ := List.mem_map.mp hd
  rfl
def sp_is_shaped (n : Nat) : DSp := fun ds M Q _ => ∃ (d nd : D) (w k : Nat) (nms : List Str), ds = [d, .int w, nd, .int k] ∧ SeqM M nd (nms.map D.str) ∧ tree d = true ∧ w ≤ 1000 ∧ k < n ∧ Q (.bl (shapedD w nms k d)) M
theorem r_is_shaped (n : Nat) : ∀ ds M Q E, sp_is_shaped (n + 1) ds M Q E → b_is_shaped sp_word_limit (sp_is_shaped n) (En Q) (startD 5 ds) M := by
  rintro ds M Q E ⟨d, nd, w, k, nms, rfl, hs, ht, hw, hk, h⟩
  cases d with
  | int i =>
    refine ⟨fun _ => ⟨fun h1 => ⟨w, rfl, hw, ?_⟩, fun h1 => ?_⟩, fun hc => absurd hc (by decide)⟩
    · refine qb h ?_
      simp only [shapedD]
      rw [h1, Bool.true_and]
    · refine qb h ?_
      simp only [shapedD]
      rw [h1, Bool.false_and]
  | str s =>
    walk_at "if"
    walk_at "if"
    rcases hs with rfl | ⟨a, rfl, ha⟩
    · exact ⟨rfl, flat_strs nms, qb h (by simp only [shapedD]; exact inD_strs s nms)⟩
    · exact .inl ⟨_, ha, rfl, flat_strs nms, qb h (by simp only [shapedD]; exact inD_strs s nms)⟩
  | tup ds =>
    walk_at "if"
    walk_at "if"
    refine ⟨fun h1 => ?_, fun h1 => ⟨fun h2 => ?_, fun h2 => ?_⟩⟩
    · walk_at "if"
      have h1 : (k : Int) = 0 := of_decide_eq_true h1
      obtain rfl : k = 0 := by omega
      refine qb h ?_
      cases ds with
      | nil => rfl
      | cons x t => cases x <;> rfl
    · walk_at "if"
      have h2 := of_decide_eq_true h2
      obtain rfl : ds = [] := by cases ds with
        | nil => rfl
        | cons x t => rw [List.length_cons] at h2; omega
      exact qb h (by cases k <;> rfl)
    · have h1 : ¬ (k : Int) = 0 := of_decide_eq_false h1
      obtain ⟨k, rfl⟩ : ∃ j, k = j + 1 := ⟨k - 1, by omega⟩
      have h2 := of_decide_eq_false h2
      cases ds with
      | nil => exact absurd rfl h2
      | cons x t =>
        refine ⟨x, at0, ?_⟩
        cases x with
        | int i =>
          walk_at "if"
          exact h
        | tup xs =>
          walk_at "if"
          exact h
        | str s =>
          walk_at "if"
          refine ⟨.str s, at0, fun h3 => ?_, fun h3 => ?_⟩
          · walk_at "if"
            refine qb h ?_
            have h3 : (!(kv_ARITY.lookup s).isSome) = true := h3
            rw [arity_some] at h3
            have : opOf s = none := by
              unfold isOpS at h3
              cases e : opOf s with
              | none => rfl
              | some o => rw [e] at h3; cases h3
            simp only [shapedD, this]
          · have h3 : (!(kv_ARITY.lookup s).isSome) = false := h3
            rw [arity_some] at h3
            obtain ⟨o, ho⟩ : ∃ o, opOf s = some o := by
              unfold isOpS at h3
              cases e : opOf s with
              | none => rw [e] at h3; cases h3
              | some o => exact ⟨o, rfl⟩
            refine ⟨.str s, at0, .int o.ar, by rw [arity_look, ho]; rfl, fun h4 => ?_, fun h4 => ?_⟩
            · refine qb h ?_
              have h4 : ((t.length + 1 : Nat) : Int) ≠ 1 + (o.ar : Int) := by simpa using h4
              simp only [shapedD, ho]
              rw [show (t.length == o.ar) = false from by rw [beq_eq_false_iff_ne]; intro e; apply h4; omega]
              rfl
            · have h4 : ((t.length + 1 : Nat) : Int) = 1 + (o.ar : Int) := by simpa using h4
              have h5 : (t.length == o.ar) = true := by rw [beq_iff_eq]; omega
              have htr := tree_tup ht
              refine ⟨fun i E M' => M' = M ∧ (∃ x, E = [some (.tup (.str s :: t)), some (.int w), some nd, some (.int ((k + 1 : Nat) : Int)), x]) ∧ (t.take i).all (shapedD w nms k) = true, ⟨rfl, ⟨none, rfl⟩, rfl⟩, fun _ _ _ _ => trivial, ?_, ?_⟩
              · rintro i E M' d hd ⟨rfl, ⟨x, rfl⟩, ha⟩
                rw [cut1] at hd
                have hd : t[i]? = some d := hd
                have hm := mem_at hd
                refine ⟨d, nd, w, k, nms, ?_, hs, htr d (List.mem_cons_of_mem _ hm), hw, by omega, fun h6 => ?_, fun h6 => ?_⟩
                · show [d, D.int w, nd, D.int (((k + 1 : Nat) : Int) - 1)] = _
                  rw [show (((k + 1 : Nat) : Int) - 1) = (k : Int) by omega]
                · refine qb h ?_
                  have h6 : shapedD w nms k d = false := by simpa using h6
                  simp only [shapedD, ho, h5, Bool.true_and]
                  exact (List.all_eq_false.mpr ⟨d, hm, by rw [h6]; decide⟩).symm
                · have h6 : shapedD w nms k d = true := by simpa using h6
                  refine ⟨rfl, ⟨_, rfl⟩, ?_⟩
                  rw [take_snoc hd, List.all_append, ha, List.all_cons, h6]
                  rfl
              · rintro E M' ⟨rfl, ⟨x, rfl⟩, ha⟩
                refine qb h ?_
                rw [cut1] at ha
                have ha : (t.take t.length).all (shapedD w nms k) = true := ha
                rw [List.take_length] at ha
                simp only [shapedD, ho, h5, ha, Bool.true_and]
        | _ => have := tree_tup ht _ List.mem_cons_self; simp [tree] at this
  | _ => simp [tree] at ht
end Rd

set_option Elab.async false
set_option linter.all false
set_option autoImplicit false
set_option maxRecDepth 100000
set_option maxHeartbeats 4000000
/-! readings: formulas whole, names, values, substitution -/
namespace Rd
open PySem PySem.Spec PyProof.Rows L2 DH Bd
local macro_rules | `(tactic| walk_at "if") => `(tactic| first | (refine ⟨fun _ => ?_, fun hc => absurd hc (by decide)⟩) | (refine ⟨fun hc => absurd hc (by decide), fun _ => ?_⟩))
/-! ### what stood stands -/
def Ext (M M' : Mm) : Prop := ∀ a o, M a = some o → M' a = some o
theorem Ext.refl (M : Mm) : Ext M M := fun _ _ h => h
theorem Ext.trans {M M1 M2 : Mm} (a : Ext M M1) (b : Ext M1 M2) : Ext M M2 := fun x o h => b x o (a x o h)
theorem Ext.new {M : Mm} {p : Addr} {o : MO} (h : M p = none) : Ext M (updM M p o) := fun a u e => by
  rw [updM_ne (fun z => by subst z; rw [h] at e; cases e)]; exact e
/-- a thing that the first heap does not know is changed -/
theorem Ext.mut {M M' : Mm} {p : Addr} {o : MO} (e : Ext M M') (h : M p = none) : Ext M (updM M' p o) := fun a u q => by
  rw [updM_ne (fun z => by subst z; rw [h] at q; cases q)]; exact e a u q
theorem Ext.back {M M' : Mm} {p : Addr} (e : Ext M M') (h : M' p = none) : M p = none := by
  cases q : M p with
  | none => rfl
  | some o => rw [e p o q] at h; cases h
theorem Ext.ne {M : Mm} {a p : Addr} {o : MO} (h : M a = some o) (hp : M p = none) : a ≠ p := fun z => by subst z; rw [hp] at h; cases h
theorem SeqM.ext {M M' : Mm} {d : D} {ds : List D} (s : SeqM M d ds) (e : Ext M M') : SeqM M' d ds := by
  rcases s with rfl | ⟨a, rfl, h⟩
  · exact .inl rfl
  · exact .inr ⟨a, rfl, e _ _ h⟩
/-! ### formulas whole -/
theorem depths_of {p : D → Bool} {k : Nat} (hp : ∀ d, p d = true → depthD d ≤ k) : ∀ t : List D, t.all p = true → depthDs t ≤ k
  | [], _ => by simp [depthDs]
  | x :: r, h => by
    rw [List.all_cons, Bool.and_eq_true] at h
    have := hp x h.1
    have := depths_of hp r h.2
    simp only [depthDs]; omega
theorem sizeDs_take : ∀ (l : List D) (i : Nat), sizeDs (l.take i) ≤ sizeDs l
  | [], i => by simp
  | x :: r, 0 => by simp [sizeDs]
  | x :: r, i + 1 => by
    have := sizeDs_take r i
    simp only [List.take_succ_cons, sizeDs]; omega
theorem sizeD_mem : ∀ {l : List D} {d : D}, d ∈ l → sizeD d ≤ sizeDs l
  | [], _, h => by cases h
  | x :: r, d, h => by
    rcases List.mem_cons.mp h with rfl | h
    · simp only [sizeDs]; omega
    · have := sizeD_mem h
      simp only [sizeDs]; omega
theorem shaped_depth {w : Nat} {nms : List Str} : ∀ {k : Nat} {d : D}, shapedD w nms k d = true → depthD d ≤ k
  | 0, d, h => by cases d <;> first | (simp [shapedD] at h; done) | (simp [depthD]; done)
  | k + 1, .tup (.str s :: t), h => by
    simp only [shapedD] at h
    split at h
    · have h := (Bool.and_eq_true_iff.mp h).2
      have : depthDs t ≤ k := depths_of (fun d q => shaped_depth q) t h
      simp only [depthD]; omega
    · cases h
  | k + 1, .tup [], h => by simp [shapedD] at h
  | k + 1, .tup (.int _ :: _), h => by simp [shapedD] at h
  | k + 1, .tup (.tup _ :: _), h => by simp [shapedD] at h
  | k + 1, .tup (.non :: _), h => by simp [shapedD] at h
  | k + 1, .tup (.bl _ :: _), h => by simp [shapedD] at h
  | k + 1, .tup (.ref _ :: _), h => by simp [shapedD] at h
  | k + 1, .tup (.ty _ :: _), h => by simp [shapedD] at h
  | k + 1, .tup (.kd _ :: _), h => by simp [shapedD] at h
  | k + 1, .tup (.fl _ :: _), h => by simp [shapedD] at h
  | k + 1, .int _, _ => by simp [depthD]
  | k + 1, .str _, _ => by simp [depthD]
  | k + 1, .non, _ => by simp [depthD]
  | k + 1, .bl _, _ => by simp [depthD]
  | k + 1, .ref _, _ => by simp [depthD]
  | k + 1, .ty _, _ => by simp [depthD]
  | k + 1, .kd _, _ => by simp [depthD]
  | k + 1, .fl _, _ => by simp [depthD]
def formD (w : Nat) (nms : List Str) (most : Int) (d : D) : Bool := shapedD w nms 6 d && decide ((sizeD d : Int) ≤ most)
def sp_is_formula : DSp := fun ds M Q _ => ∃ (d nd : D) (w : Nat) (most : Int) (nms : List Str), ds = [d, .int w, nd, .int most] ∧ SeqM M nd (nms.map D.str) ∧ tree d = true ∧ w ≤ 1000 ∧ Q (.bl (formD w nms most d)) M
theorem r_is_formula : ∀ ds M Q E, sp_is_formula ds M Q E → b_is_formula (sp_is_shaped 7) (sp_size 7) (En Q) (startD 4 ds) M := by
  rintro ds M Q E ⟨d, nd, w, most, nms, rfl, hs, ht, hw, h⟩
  unfold formD at h
  refine ⟨d, nd, w, 6, nms, rfl, hs, ht, hw, by decide, fun hb => ?_, fun hb => ?_⟩
  · have hd := shaped_depth hb
    refine ⟨d, rfl, ht, by omega, qb h ?_⟩
    rw [hb, Bool.true_and]
  · exact qb h (by rw [hb, Bool.false_and])
/-! ### names -/
def addN (f l : List Str) : List Str := l.foldl (fun f n => if n ∈ f then f else f ++ [n]) f
mutual
def namesD : D → List Str
  | .str s => [s]
  | .tup (_ :: t) => namesDs [] t
  | _ => []
def namesDs (f : List Str) : List D → List Str
  | [] => f
  | d :: t => namesDs (addN f (namesD d)) t
end
theorem namesDs_snoc (d : D) : ∀ (t : List D) (f : List Str), namesDs f (t ++ [d]) = addN (namesDs f t) (namesD d)
  | [], f => by simp [namesDs]
  | x :: t, f => by
    simp only [List.cons_append, namesDs]
    exact namesDs_snoc d t _
theorem addN_snoc (f l : List Str) (n : Str) : addN f (l ++ [n]) = if n ∈ addN f l then addN f l else addN f l ++ [n] := by
  unfold addN
  rw [List.foldl_append]; rfl
theorem addN_len (f l : List Str) : (addN f l).length ≤ f.length + l.length := by
  induction l generalizing f with
  | nil => exact Nat.le_refl _
  | cons x r ih =>
    show (addN (if x ∈ f then f else f ++ [x]) r).length ≤ _
    have := ih (if x ∈ f then f else f ++ [x])
    split at this
    · rename_i q; rw [if_pos q] at *; rw [List.length_cons]; omega
    · rename_i q; rw [if_neg q] at *; rw [List.length_append] at this; rw [List.length_cons]; simp at this; omega
mutual
theorem names_size : ∀ d : D, (namesD d).length ≤ sizeD d
  | .str s => by simp [namesD, sizeD]
  | .tup [] => by simp [namesD, sizeD]
  | .tup (x :: t) => by
    have := names_sizes t []
    simp only [namesD, sizeD]
    simp at this; omega
  | .int _ => by simp [namesD, sizeD]
  | .non => by simp [namesD, sizeD]
  | .bl _ => by simp [namesD, sizeD]
  | .ref _ => by simp [namesD, sizeD]
  | .ty _ => by simp [namesD, sizeD]
  | .kd _ => by simp [namesD, sizeD]
  | .fl _ => by simp [namesD, sizeD]
theorem names_sizes : ∀ (t : List D) (f : List Str), (namesDs f t).length ≤ f.length + sizeDs t
  | [], f => by simp [namesDs, sizeDs]
  | d :: t, f => by
    have h1 := names_size d
    have h2 := addN_len f (namesD d)
    have h3 := names_sizes t (addN f (namesD d))
    simp only [namesDs, sizeDs]; omega
end
/-- a new list -/
def RetL (M : Mm) (Q : DQ) (ds : List D) : Prop := ∀ p M', M p = none → Ext M M' → M' p = some (.lst ds) → Q (.ref p) M'
def sp_names (n : Nat) : DSp := fun ds M Q _ => ∃ d, ds = [d] ∧ tree d = true ∧ depthD d < n ∧ sizeD d ≤ 100000 ∧ RetL M Q ((namesD d).map D.str)
theorem r_formula_names (n : Nat) : ∀ ds M Q E, sp_names (n + 1) ds M Q E → b_formula_names (sp_names n) (En Q) (startD 4 ds) M := by
  rintro ds M Q E ⟨d, rfl, ht, hn, hz, h⟩
  cases d with
  | int i =>
    walk_at "if"
    exact ⟨Nat.zero_le _, fun p hp => h p _ hp (Ext.new hp) updM_same⟩
  | str s =>
    walk_at "if"
    walk_at "if"
    exact ⟨(by show 1 ≤ sizeLine; decide), fun p hp => h p _ hp (Ext.new hp) updM_same⟩
  | tup ds =>
    walk_at "if"
    walk_at "if"
    refine ⟨Nat.zero_le _, fun p hp => ?_⟩
    have hz2 : ∀ i, (namesDs [] ((ds.drop 1).take i)).length ≤ 100000 := fun i => by
      have h1 := names_sizes ((ds.drop 1).take i) []
      rw [sizeD_tup] at hz
      have := sizeDs_take (ds.drop 1) i
      rw [List.length_nil] at h1; omega
    refine ⟨fun i E M' => Ext M M' ∧ M' p = some (.lst ((namesDs [] ((ds.drop 1).take i)).map D.str)) ∧ ∃ x y, E = [some (.tup ds), some (.ref p), x, y], ⟨Ext.new hp, updM_same, none, none, rfl⟩, fun _ _ _ _ => trivial, ?_, ?_⟩
    · rintro i E M' d hd ⟨hx, hl, x, y, rfl⟩
      rw [cut1] at hd
      have hm := mem_at hd
      have h1 := depthD_mem hm
      rw [depthD_tup] at hn
      have hsd : sizeD d ≤ 100000 := by
        rw [sizeD_tup] at hz
        have := sizeD_mem hm
        omega
      refine ⟨d, rfl, tree_tup ht d (drop_mem hm), by omega, hsd, fun q M1 hq e1 hl1 => ?_⟩
      have hp1 : M1 p = _ := e1 _ _ hl
      have hqp : q ≠ p := fun z => by subst z; rw [hq] at hl; cases hl
      refine ⟨_, hl1, fun j E M2 => Ext M M2 ∧ M2 q = some (.lst ((namesD d).map D.str)) ∧ M2 p = some (.lst ((addN (namesDs [] ((ds.drop 1).take i)) ((namesD d).take j)).map D.str)) ∧ ∃ y, E = [some (.tup ds), some (.ref p), some d, y], ⟨hx.trans e1, hl1, hp1, y, rfl⟩, fun j E M2 ⟨_, h2, _⟩ => h2, ?_, ?_⟩
      · rintro j E M2 e he ⟨hx2, hq2, hp2, y, rfl⟩
        rw [List.getElem?_map] at he
        obtain ⟨nme, hn1, rfl⟩ := Option.map_eq_some_iff.mp he
        have hlen : (addN (namesDs [] ((ds.drop 1).take i)) ((namesD d).take j)).length ≤ 200000 := by
          have a1 := addN_len (namesDs [] ((ds.drop 1).take i)) ((namesD d).take j)
          have a2 := hz2 i
          have a3 := names_size d
          have a4 : ((namesD d).take j).length ≤ (namesD d).length := by rw [List.length_take]; omega
          omega
        refine .inl ⟨_, hp2, rfl, flat_strs _, fun hb => ?_, fun hb => ?_⟩
        · have hb : ¬ nme ∈ addN (namesDs [] ((ds.drop 1).take i)) ((namesD d).take j) := by
            have hb : (!inD (.str nme) _) = true := hb
            rw [inD_strs] at hb
            simpa using hb
          refine ⟨⟨_, hp2⟩, _, hp2, ?_, hx2.mut hp, ?_, ?_, y.elim (some (.str nme)) (fun _ => some (.str nme)), ?_⟩
          · rw [List.length_map]
            exact Nat.lt_of_le_of_lt hlen (by decide)
          · rw [updM_ne hqp]; exact hq2
          · rw [updM_same, take_snoc hn1, addN_snoc, if_neg hb, List.map_append]; rfl
          · cases y <;> rfl
        · have hb : nme ∈ addN (namesDs [] ((ds.drop 1).take i)) ((namesD d).take j) := by
            have hb : (!inD (.str nme) _) = false := hb
            rw [inD_strs] at hb
            simpa using hb
          refine ⟨hx2, hq2, ?_, some (.str nme), rfl⟩
          rw [take_snoc hn1, addN_snoc, if_pos hb]; exact hp2
      · rintro E M2 ⟨hx2, hq2, hp2, y, rfl⟩
        refine ⟨hx2, ?_, some d, y, rfl⟩
        rw [List.length_map, List.take_length] at hp2
        rw [take_snoc hd, namesDs_snoc]
        exact hp2
    · rintro E M' ⟨hx, hl, x, y, rfl⟩
      refine h p M' hp hx ?_
      rw [cut1, List.take_length] at hl
      rw [hl]
      cases ds with
      | nil => rfl
      | cons z t => rfl
  | _ => simp [tree] at ht
end Rd

set_option Elab.async false
set_option linter.all false
set_option autoImplicit false
set_option maxRecDepth 100000
set_option maxHeartbeats 4000000
/-! readings: values, substitution -/
namespace Rd
open PySem PySem.Spec PyProof.Rows L2 DH Bd
local macro_rules | `(tactic| walk_at "if") => `(tactic| first | (refine ⟨fun _ => ?_, fun hc => absurd hc (by decide)⟩) | (refine ⟨fun hc => absurd hc (by decide), fun _ => ?_⟩))
/-! ### values -/
mutual
def evD (w : Nat) (ρ : Str → Nat) : D → Nat
  | .int i => i.toNat
  | .str s => ρ s
  | .tup (.str s :: t) => (match opOf s with
    | some o => o.v w (evDs w ρ t)
    | none => 0)
  | _ => 0
def evDs (w : Nat) (ρ : Str → Nat) : List D → List Nat
  | [] => []
  | d :: t => evD w ρ d :: evDs w ρ t
end
mutual
def wfD (w : Nat) (nms : List Str) : D → Bool
  | .int i => decide (0 ≤ i) && decide (i < (2 ^ w : Nat))
  | .str s => decide (s ∈ nms)
  | .tup (.str s :: t) => (match opOf s with
    | some o => t.length == o.ar && wfDs w nms t
    | none => false)
  | _ => false
def wfDs (w : Nat) (nms : List Str) : List D → Bool
  | [] => true
  | d :: t => wfD w nms d && wfDs w nms t
end
theorem wfDs_mem {w : Nat} {nms : List Str} : ∀ {t : List D}, wfDs w nms t = true → ∀ d ∈ t, wfD w nms d = true
  | [], _, _, h => by cases h
  | e :: t, ht, d, h => by
    unfold wfDs at ht
    obtain ⟨h1, h2⟩ := Bool.and_eq_true_iff.mp ht
    rcases List.mem_cons.mp h with rfl | h
    · exact h1
    · exact wfDs_mem h2 d h
theorem evDs_map (w : Nat) (ρ : Str → Nat) : ∀ t : List D, evDs w ρ t = t.map (evD w ρ)
  | [] => rfl
  | d :: t => by simp only [evDs, List.map_cons, evDs_map w ρ t]
theorem op_inv {w : Nat} {nms : List Str} {ds : List D} (h : wfD w nms (.tup ds) = true) : ∃ (o : Op) (t : List D), ds = .str o.nm :: t ∧ t.length = o.ar ∧ (∀ d ∈ t, wfD w nms d = true) ∧ ∀ ρ, evD w ρ (.tup ds) = o.v w (t.map (evD w ρ)) := by
  match ds, h with
  | .str s :: t, h =>
    simp only [wfD] at h
    cases e : opOf s with
    | none => rw [e] at h; cases h
    | some o =>
      rw [e] at h
      obtain ⟨h1, h2⟩ := Bool.and_eq_true_iff.mp h
      have es := opOf_nm e
      subst es
      refine ⟨o, t, rfl, by simpa using h1, wfDs_mem h2, fun ρ => ?_⟩
      simp only [evD, e, evDs_map]
  | [], h => simp [wfD] at h
  | .int _ :: _, h => simp [wfD] at h
  | .tup _ :: _, h => simp [wfD] at h
  | .non :: _, h => simp [wfD] at h
  | .bl _ :: _, h => simp [wfD] at h
  | .ref _ :: _, h => simp [wfD] at h
  | .ty _ :: _, h => simp [wfD] at h
  | .kd _ :: _, h => simp [wfD] at h
  | .fl _ :: _, h => simp [wfD] at h
theorem opv_lt {w : Nat} (hw : 1 ≤ w) (o : Op) (xs : List Nat) (hl : xs.length = o.ar) (hx : ∀ x ∈ xs, x < 2 ^ w) : o.v w xs < 2 ^ w := by
  have hp : 0 < 2 ^ w := Nat.two_pow_pos w
  have h2 : 2 ≤ 2 ^ w := by
    have := Nat.pow_le_pow_right (n := 2) (by decide) hw
    simpa using this
  have bl : ∀ b, b2n b < 2 ^ w := fun b => by cases b; (show 0 < 2 ^ w; omega); (show 1 < 2 ^ w; omega)
  cases o
  case not => match xs, hl with
    | [x], _ => show 2 ^ w - 1 - x < 2 ^ w; omega
  case neg => match xs, hl with
    | [x], _ => exact Nat.mod_lt _ hp
  case and => match xs, hl, hx with
    | [x, y], _, hx => exact Nat.lt_of_le_of_lt Nat.and_le_left (hx x (by simp))
  case or => match xs, hl, hx with
    | [x, y], _, hx => exact Nat.or_lt_two_pow (hx x (by simp)) (hx y (by simp))
  case xor => match xs, hl, hx with
    | [x, y], _, hx => exact Nat.xor_lt_two_pow (hx x (by simp)) (hx y (by simp))
  case add => match xs, hl with
    | [x, y], _ => exact Nat.mod_lt _ hp
  case sub => match xs, hl with
    | [x, y], _ => exact Nat.mod_lt _ hp
  case mul => match xs, hl with
    | [x, y], _ => exact Nat.mod_lt _ hp
  case shl => match xs, hl with
    | [x, y], _ => exact Nat.mod_lt _ hp
  case shr => match xs, hl, hx with
    | [x, y], _, hx => exact Nat.lt_of_le_of_lt (Nat.div_le_self _ _) (hx x (by simp))
  case eq => match xs, hl with
    | [x, y], _ => exact bl _
  case lt => match xs, hl with
    | [x, y], _ => exact bl _
  case slt => match xs, hl with
    | [x, y], _ => exact bl _
  case pick => match xs, hl, hx with
    | [x, y, z], _, hx =>
      show (if x = 0 then z else y) < 2 ^ w
      split
      · exact hx z (by simp)
      · exact hx y (by simp)
mutual
theorem ev_lt {w : Nat} (hw : 1 ≤ w) {nms : List Str} {ρ : Str → Nat} (hρ : ∀ s ∈ nms, ρ s < 2 ^ w) : ∀ d : D, wfD w nms d = true → evD w ρ d < 2 ^ w
  | .int i, h => by
    simp only [wfD, Bool.and_eq_true, decide_eq_true_eq] at h
    simp only [evD]; omega
  | .str s, h => by
    simp only [wfD, decide_eq_true_eq] at h
    simp only [evD]; exact hρ s h
  | .tup (.str s :: t), h => by
    simp only [wfD] at h
    simp only [evD]
    cases e : opOf s with
    | none => rw [e] at h; cases h
    | some o =>
      rw [e] at h
      obtain ⟨h1, h2⟩ := Bool.and_eq_true_iff.mp h
      have h3 := evs_lt hw hρ t h2
      refine opv_lt hw o _ ?_ h3
      rw [evDs_map, List.length_map]
      simpa using h1
  | .tup [], h => by simp [wfD] at h
  | .tup (.int _ :: _), h => by simp [wfD] at h
  | .tup (.tup _ :: _), h => by simp [wfD] at h
  | .tup (.non :: _), h => by simp [wfD] at h
  | .tup (.bl _ :: _), h => by simp [wfD] at h
  | .tup (.ref _ :: _), h => by simp [wfD] at h
  | .tup (.ty _ :: _), h => by simp [wfD] at h
  | .tup (.kd _ :: _), h => by simp [wfD] at h
  | .tup (.fl _ :: _), h => by simp [wfD] at h
  | .non, h => by simp [wfD] at h
  | .bl _, h => by simp [wfD] at h
  | .ref _, h => by simp [wfD] at h
  | .ty _, h => by simp [wfD] at h
  | .kd _, h => by simp [wfD] at h
  | .fl _, h => by simp [wfD] at h
theorem evs_lt {w : Nat} (hw : 1 ≤ w) {nms : List Str} {ρ : Str → Nat} (hρ : ∀ s ∈ nms, ρ s < 2 ^ w) : ∀ t : List D, wfDs w nms t = true → ∀ x ∈ evDs w ρ t, x < 2 ^ w
  | [], _, x, hx => by simp [evDs] at hx
  | d :: t, h, x, hx => by
    simp only [wfDs, Bool.and_eq_true] at h
    simp only [evDs, List.mem_cons] at hx
    rcases hx with rfl | hx
    · exact ev_lt hw hρ d h.1
    · exact evs_lt hw hρ t h.2 x hx
end
/-- a dict that gives the names words -/
def EnvM (M : Mm) (a : Addr) (w : Nat) (ρ : Str → Nat) (nms : List Str) : Prop := ∃ kvs, M a = some (.dk kvs) ∧ ∀ s ∈ nms, valD kvs (.inr s) = some (.int (ρ s)) ∧ ρ s < 2 ^ w
theorem EnvM.ext {M M' : Mm} {a : Addr} {w : Nat} {ρ : Str → Nat} {nms : List Str} (h : EnvM M a w ρ nms) (e : Ext M M') : EnvM M' a w ρ nms :=
  let ⟨kvs, h1, h2⟩ := h; ⟨kvs, e _ _ h1, h2⟩
/-- a value, whatever is made on the way -/
def RetV (M : Mm) (Q : DQ) (d : D) : Prop := ∀ M', Ext M M' → Q d M'
def sp_value (n : Nat) : DSp := fun ds M Q _ => ∃ (d : D) (w : Nat) (a : Addr) (ρ : Str → Nat) (nms : List Str), ds = [d, .int w, .ref a] ∧ 1 ≤ w ∧ w ≤ 4 ∧ wfD w nms d = true ∧ depthD d < n ∧ EnvM M a w ρ nms ∧ RetV M Q (.int (evD w ρ d))
theorem wds_map {w : Nat} {ρ : Str → Nat} (t : List D) : wds (t.map (evD w ρ)) = t.map fun d => D.int (evD w ρ d : Nat) := by
  unfold wds; rw [List.map_map]; rfl
theorem r_formula_value (n : Nat) : ∀ ds M Q E, sp_value (n + 1) ds M Q E → b_formula_value (sp_value n) sp_operate (En Q) (startD 5 ds) M := by
  rintro ds M Q E ⟨d, w, a, ρ, nms, rfl, hw, h4, hd, hn, he, h⟩
  cases d with
  | int i =>
    walk_at "if"
    refine qi (h M (Ext.refl M)) ?_
    simp only [wfD, Bool.and_eq_true, decide_eq_true_eq] at hd
    simp only [evD]; omega
  | str s =>
    walk_at "if"
    walk_at "if"
    obtain ⟨kvs, h1, h2⟩ := he
    simp only [wfD, decide_eq_true_eq] at hd
    refine .inr ⟨kvs, .inr s, _, h1, rfl, (h2 s hd).1, ?_⟩
    refine qi (h M (Ext.refl M)) ?_
    simp only [evD]
  | tup ds =>
    obtain ⟨o, t, rfl, hl, ht, hev⟩ := op_inv hd
    walk_at "if"
    walk_at "if"
    refine ⟨Nat.zero_le _, fun p hp => ?_⟩
    refine ⟨fun i E M' => Ext M M' ∧ M' p = some (.lst ((t.take i).map fun d => D.int (evD w ρ d : Nat))) ∧ ∃ x, E = [some (.tup (.str o.nm :: t)), some (.int w), some (.ref a), some (.ref p), x], ⟨Ext.new hp, updM_same, none, rfl⟩, fun _ _ _ _ => trivial, ?_, ?_⟩
    · rintro i E M' d hd ⟨hx, hl2, x, rfl⟩
      rw [cut1] at hd
      have hd : t[i]? = some d := hd
      have hm := mem_at hd
      have h1 := depthD_mem hm
      rw [depthD_tup] at hn
      have hn : depthDs t + 1 < n + 1 := hn
      refine ⟨⟨_, hl2⟩, d, w, a, ρ, nms, rfl, hw, h4, ht d hm, by omega, he.ext hx, fun M1 e1 => ?_⟩
      have hlt := lt_at hd
      have h3 : o.ar ≤ 3 := by cases o <;> decide
      refine ⟨_, e1 _ _ hl2, ?_, (hx.trans e1).mut hp, ?_, some d, rfl⟩
      · rw [List.length_map, List.length_take]
        exact Nat.lt_of_le_of_lt (show min i t.length ≤ 3 by omega) (by decide)
      · rw [updM_same, take_snoc hd, List.map_append]; rfl
    · rintro E M' ⟨hx, hl2, x, rfl⟩
      rw [cut1] at hl2
      have hl2 : M' p = some (.lst ((t.take t.length).map fun d => D.int (evD w ρ d : Nat))) := hl2
      rw [List.take_length] at hl2
      refine ⟨.str o.nm, at0, o, w, t.map (evD w ρ), .ref p, rfl, .inr ⟨p, rfl, ?_⟩, by rw [List.length_map]; exact hl, hw, h4, ?_, ?_⟩
      · rw [wds_map]; exact hl2
      · intro x hx
        obtain ⟨d, hd, rfl⟩ := List.mem_map.mp hx
        obtain ⟨kvs, h1, h2⟩ := he
        exact ev_lt hw (fun s hs => (h2 s hs).2) d (ht d hd)
      · refine qi (h M' hx) ?_
        rw [hev]
  | _ => simp [wfD] at hd
/-! ### substitution -/
mutual
def putF (ρ : Str → Option D) : D → D
  | .str s => (ρ s).getD (.str s)
  | .tup (x :: t) => .tup (x :: putFs ρ t)
  | d => d
def putFs (ρ : Str → Option D) : List D → List D
  | [] => []
  | d :: t => putF ρ d :: putFs ρ t
end
theorem putFs_map (ρ : Str → Option D) : ∀ t : List D, putFs ρ t = t.map (putF ρ)
  | [] => rfl
  | d :: t => by simp only [putFs, List.map_cons, putFs_map ρ t]
mutual
def fullD : D → Bool
  | .int _ | .str _ => true
  | .tup (_ :: t) => fullDs t
  | _ => false
def fullDs : List D → Bool
  | [] => true
  | d :: t => fullD d && fullDs t
end
theorem fullDs_mem : ∀ {t : List D}, fullDs t = true → ∀ d ∈ t, fullD d = true
  | [], _, _, h => by cases h
  | e :: t, ht, d, h => by
    unfold fullDs at ht
    obtain ⟨h1, h2⟩ := Bool.and_eq_true_iff.mp ht
    rcases List.mem_cons.mp h with rfl | h
    · exact h1
    · exact fullDs_mem h2 d h
def sp_put_in (n : Nat) : DSp := fun ds M Q _ => ∃ (d : D) (a : Addr) (kvs : List (Key × D)), ds = [d, .ref a] ∧ fullD d = true ∧ depthD d < n ∧ sizeD d ≤ 100000 ∧ M a = some (.dk kvs) ∧ RetV M Q (putF (fun s => valD kvs (.inr s)) d)
theorem len_size : ∀ t : List D, t.length ≤ sizeDs t
  | [] => Nat.le_refl _
  | d :: t => by
    have := len_size t
    have : 1 ≤ sizeD d := by
      cases d with
      | tup ds => rw [sizeD_tup]; omega
      | _ => simp [sizeD]
    simp only [sizeDs, List.length_cons]; omega
theorem r_put_in (n : Nat) : ∀ ds M Q E, sp_put_in (n + 1) ds M Q E → b_put_in (sp_put_in n) (En Q) (startD 4 ds) M := by
  rintro ds M Q E ⟨d, a, kvs, rfl, hf, hn, hz, ha, h⟩
  cases d with
  | int i =>
    walk_at "if"
    exact h M (Ext.refl M)
  | str s =>
    walk_at "if"
    walk_at "if"
    refine ⟨⟨kvs, ha⟩, kvs, .inr s, ha, rfl, ?_⟩
    refine qd (h M (Ext.refl M)) ?_
    simp only [putF]
  | tup ds =>
    match ds, hf with
    | x :: t, hf =>
      have hf : fullDs t = true := by simpa [fullD] using hf
      walk_at "if"
      walk_at "if"
      have hsz : t.length ≤ 100000 := by
        have := len_size t
        simp only [sizeD] at hz; omega
      refine ⟨x, at0, (by show 1 ≤ sizeLine; decide), fun p hp => ?_⟩
      refine ⟨fun i E M' => Ext M M' ∧ M' p = some (.lst (x :: (t.take i).map (putF fun s => valD kvs (.inr s)))) ∧ ∃ y, E = [some (.tup (x :: t)), some (.ref a), some (.ref p), y], ⟨Ext.new hp, updM_same, none, rfl⟩, fun _ _ _ _ => trivial, ?_, ?_⟩
      · rintro i E M' d hd ⟨hx, hl2, y, rfl⟩
        rw [cut1] at hd
        have hd : t[i]? = some d := hd
        have hm := mem_at hd
        have h1 := depthD_mem hm
        have h2 := sizeD_mem hm
        rw [depthD_tup] at hn
        rw [sizeD_tup] at hz
        have hn : depthDs t + 1 < n + 1 := hn
        have hz : 1 + sizeDs t ≤ 100000 := hz
        refine ⟨⟨_, hl2⟩, d, a, kvs, rfl, fullDs_mem hf d hm, by omega, by omega, hx _ _ ha, fun M1 e1 => ?_⟩
        refine ⟨_, e1 _ _ hl2, ?_, (hx.trans e1).mut hp, ?_, some d, rfl⟩
        · rw [List.length_cons, List.length_map, List.length_take]
          exact Nat.lt_of_le_of_lt (show min i t.length + 1 ≤ 100001 by omega) (by decide)
        · rw [updM_same, take_snoc hd, List.map_append]; rfl
      · rintro E M' ⟨hx, hl2, y, rfl⟩
        rw [cut1] at hl2
        have hl2 : M' p = some (.lst (x :: (t.take t.length).map (putF fun s => valD kvs (.inr s)))) := hl2
        rw [List.take_length] at hl2
        refine ⟨_, hl2, ?_⟩
        refine qd (h M' hx) ?_
        simp only [putF, putFs_map]
    | [], hf => simp [fullD] at hf
  | _ => simp [fullD] at hf
end Rd

set_option Elab.async false
set_option linter.all false
set_option autoImplicit false
set_option maxRecDepth 100000
set_option maxHeartbeats 4000000
/-! readings: the draw -/
namespace Rd
open PySem PySem.Spec PyProof.Rows L2 DH Bd
local macro_rules | `(tactic| walk_at "if") => `(tactic| first | (refine ⟨fun _ => ?_, fun hc => absurd hc (by decide)⟩) | (refine ⟨fun hc => absurd hc (by decide), fun _ => ?_⟩))
theorem tolist {n : Nat} (h : n ≤ 10000000) : n < sizeLine := Nat.lt_of_le_of_lt h (by decide)
def Cur (c : Addr) (M : Mm) : Prop := ∃ k : Nat, M c = some (.lst [.int k])
/-- all but the cursor stays -/
structure Dr (c : Addr) (M M' : Mm) : Prop where
  ex : ∀ a o, a ≠ c → M a = some o → M' a = some o
  cur : Cur c M → Cur c M'
structure Dw (p c : Addr) (M : Mm) : Prop where
  ne : p ≠ c
  nums : ∃ ds, M p = some (.lst ds) ∧ 0 < ds.length ∧ ds.length ≤ 3000 ∧ ∀ d ∈ ds, ∃ n : Nat, d = .int n
  cur : Cur c M
theorem Dr.refl {c : Addr} (M : Mm) : Dr c M M := ⟨fun _ _ _ h => h, fun h => h⟩
theorem Dr.trans {c : Addr} {M M1 M2 : Mm} (a : Dr c M M1) (b : Dr c M1 M2) : Dr c M M2 := ⟨fun x o n h => b.ex x o n (a.ex x o n h), fun h => b.cur (a.cur h)⟩
theorem Dr.ofExt {c : Addr} {M M' : Mm} (e : Ext M M') : Dr c M M' := ⟨fun a o _ h => e a o h, fun ⟨k, h⟩ => ⟨k, e _ _ h⟩⟩
theorem Dr.new {c p : Addr} {M : Mm} {o : MO} (h : M p = none) : Dr c M (updM M p o) := .ofExt (Ext.new h)
theorem Dr.mut {c p : Addr} {M M' : Mm} {o : MO} (e : Dr c M M') (hc : Cur c M) (h : M p = none) : Dr c M (updM M' p o) := by
  have hne : c ≠ p := fun z => by subst z; obtain ⟨k, hk⟩ := hc; rw [h] at hk; cases hk
  exact ⟨fun a u n q => by rw [updM_ne (Ext.ne q h)]; exact e.ex a u n q, fun _ => by obtain ⟨k, hk⟩ := e.cur hc; exact ⟨k, by rw [updM_ne hne]; exact hk⟩⟩
theorem Dr.back {c p : Addr} {M M' : Mm} (e : Dr c M M') (hc : Cur c M) (h : M' p = none) : M p = none := by
  cases q : M p with
  | none => rfl
  | some o =>
    have : p ≠ c := fun z => by subst z; obtain ⟨k, hk⟩ := e.cur hc; rw [h] at hk; cases hk
    have := e.ex p o this q; rw [h] at this; cases this
theorem Dw.go {p c : Addr} {M M' : Mm} (d : Dw p c M) (e : Dr c M M') : Dw p c M' :=
  ⟨d.ne, let ⟨ds, h1, h2⟩ := d.nums; ⟨ds, e.ex _ _ d.ne h1, h2⟩, e.cur d.cur⟩
theorem Dw.cne {p c q : Addr} {M : Mm} (d : Dw p c M) (h : M q = none) : q ≠ c := fun z => by
  subst z; obtain ⟨k, hk⟩ := d.cur; rw [h] at hk; cases hk
def sp_take : DSp := fun ds M Q _ => ∃ (p c : Addr) (m : Nat), ds = [.ref p, .ref c, .int m] ∧ 0 < m ∧ Dw p c M ∧ ∀ r : Nat, r < m → ∀ M', Dr c M M' → Q (.int r) M'
theorem r__law_take : ∀ ds M Q E, sp_take ds M Q E → b__law_take (En Q) (startD 4 ds) M := by
  rintro ds M Q E ⟨p, c, m, rfl, hm, dw, h⟩
  obtain ⟨xs, hp, h0, h3, hx⟩ := dw.nums
  obtain ⟨k, hc⟩ := dw.cur
  have hlt : k % xs.length < xs.length := Nat.mod_lt _ h0
  obtain ⟨n, hn⟩ := hx _ (List.getElem_mem hlt)
  have hat : xs[k % xs.length]? = some (.int n) := by rw [List.getElem?_eq_getElem hlt, hn]
  refine .inl ⟨_, 0, _, hc, rfl, at0, .inl ⟨xs, hp, ⟨by omega, .inl ⟨xs, _, _, hp, rfl, atI_nat (j := k % xs.length) hat, ?_⟩⟩⟩⟩
  refine .inl ⟨_, 0, _, hc, rfl, at0, .inl ⟨_, 0, 0, hc, rfl, rfl, ?_⟩⟩
  refine ⟨by omega, ?_⟩
  have := h (n % m) (Nat.mod_lt _ hm) (updM M c (.lst [.int ((k + 1 : Nat) : Int)])) ⟨fun a o na ha => by rw [updM_ne na]; exact ha, fun _ => ⟨_, updM_same⟩⟩
  exact this
/-! ### the stream -/
def sp_mix : DSp := fun ds M Q _ => ∃ (a k : Int), ds = [.int a, .int k] ∧ ∀ r : Nat, Q (.int r) M
theorem r__law_mix : ∀ ds M Q E, sp_mix ds M Q E → b__law_mix (En Q) (startD 2 ds) M := by
  rintro ds M Q E ⟨a, k, rfl, h⟩
  refine ⟨.inr ⟨by decide, by decide⟩, .inr ⟨by decide, by decide⟩, (by decide : (0:Int) < 2147483647), .inr ⟨by decide, by decide⟩, .inr ⟨by decide, by decide⟩, (by decide : (0:Int) < 2147483399), ?_⟩
  obtain ⟨r, hr⟩ := Int.eq_ofNat_of_zero_le (Int.emod_nonneg (((a * 48271 + k * 69621 + 12345) % 2147483647) * 40692 + k * 52774 + 7) (b := 2147483399) (by decide))
  exact qi (h r) hr
theorem fl_at {ns : List Int} {i : Nat} (h : i < ns.length) : ∃ n : Int, (ns.map D.int)[i]? = some (.int n) := ⟨ns[i], by simp [h]⟩
def NumL (M : Mm) (p : Addr) (B : Nat) : Prop := ∃ ds, M p = some (.lst ds) ∧ ds.length ≤ B ∧ ∀ d ∈ ds, ∃ n : Nat, d = .int n
theorem NumL.push {M : Mm} {p : Addr} {ds : List D} {n : Int} {B : Nat} (h1 : ds.length ≤ B) (h2 : ∀ d ∈ ds, ∃ n : Nat, d = .int n) (hn : 0 ≤ n) : NumL (updM M p (.lst (ds ++ [.int n]))) p (B + 1) :=
  ⟨_, updM_same, by rw [List.length_append]; show ds.length + 1 ≤ B + 1; omega, fun d hd => by
    rcases List.mem_append.mp hd with hd | hd
    · exact h2 d hd
    · obtain ⟨m, rfl⟩ := Int.eq_ofNat_of_zero_le hn
      exact ⟨m, List.mem_singleton.mp hd⟩⟩
theorem NumL.mono {M : Mm} {p : Addr} {B C : Nat} (h : NumL M p B) (l : B ≤ C) : NumL M p C := let ⟨ds, h1, h2, h3⟩ := h; ⟨ds, h1, by omega, h3⟩
theorem rng_at {lo : Int} {n i : Nat} {d : D} (h : (rngD lo n)[i]? = some d) : i < n ∧ d = .int (lo + i) := by
  unfold rngD at h
  have hl : i < n := by have := lt_at h; simpa using this
  refine ⟨hl, ?_⟩
  rw [List.getElem?_map, List.getElem?_range hl] at h
  cases h; rfl
theorem rng_len {lo : Int} {n : Nat} : (rngD lo n).length = n := by unfold rngD; simp
def sp_stream : DSp := fun ds M Q _ => ∃ (ns : List Int) (m : Nat), ds = [.fl (ns.map D.int), .int m] ∧ ns.length ≤ 63 ∧ m ≤ 400 ∧ 0 < m ∧ ∀ p M', M p = none → Ext M M' → (∃ ds, M' p = some (.lst ds) ∧ 0 < ds.length ∧ ds.length ≤ 3000 ∧ ∀ d ∈ ds, ∃ n : Nat, d = .int n) → Q (.ref p) M'
theorem r__law_stream : ∀ ds M Q E, sp_stream ds M Q E → b__law_stream sp_mix (En Q) (startD 7 ds) M := by
  rintro ds M Q E ⟨ns, m, rfl, h63, hm, hm0, h⟩
  refine ⟨by show 0 ≤ sizeLine; decide, fun p hp => ?_⟩
  have hlen : ((ns.map D.int).length : Int) ≤ 63 := by rw [List.length_map]; omega
  refine ⟨by show -(2 ^ 62) ≤ (if ((ns.map D.int).length : Int) < 63 then ((ns.map D.int).length : Int) else 63); split <;> omega, by show (if ((ns.map D.int).length : Int) < 63 then ((ns.map D.int).length : Int) else 63) < _; split <;> omega, ?_⟩
  refine ⟨fun i E M' => Ext M M' ∧ NumL M' p (40 * i) ∧ ∃ l : Int, ∃ x y z, E = [some (.fl (ns.map D.int)), some (.int m), some (.ref p), some (.int l), x, y, z], ⟨Ext.new hp, ⟨[], updM_same, by simp, by simp⟩, 1, none, none, none, rfl⟩, fun _ _ _ _ => trivial, ?_, ?_⟩
  · rintro i E M' d hd ⟨hx, hl, l, x, y, z, rfl⟩
    obtain ⟨hi, rfl⟩ := rng_at hd
    have hi : i < (if ((ns.map D.int).length : Int) < 63 then ((ns.map D.int).length : Int) else 63).toNat := hi
    have hi : i < ns.length := by
      rw [List.length_map] at hi
      split at hi <;> omega
    obtain ⟨v, hv⟩ := fl_at hi
    rw [Int.zero_add]
    refine ⟨_, atI_nat hv, ?_⟩
    have hc0 : 0 ≤ (if v < 0 then -v else v) := by split <;> omega
    refine ⟨(by decide : (0:Int) < 2147483647), _, _, rfl, fun r => ?_⟩
    refine ⟨⟨by decide, by decide, by decide⟩, fun hb => ?_, fun hb => ?_⟩
    · refine ⟨by decide, by decide, ?_⟩
      refine ⟨fun j E M' => Ext M M' ∧ NumL M' p (40 * i + j) ∧ ∃ l c : Int, ∃ z, 0 ≤ c ∧ E = [some (.fl (ns.map D.int)), some (.int m), some (.ref p), some (.int l), some (.int (i : Int)), some (.int c), z], ⟨hx, hl, r, _, z, hc0, rfl⟩, fun _ _ _ _ => trivial, ?_, ?_⟩
      · rintro j E M' d hd ⟨hx, hl, l, c, z, hc0, rfl⟩
        obtain ⟨hj, rfl⟩ := rng_at hd
        refine ⟨fun hb => ?_, fun hb => ⟨hx, hl.mono (by omega), l, c, _, hc0, rfl⟩⟩
        obtain ⟨ds, h1, h2, h3⟩ := hl
        have hi3 := hi
        have hj : j < 40 := hj
        refine ⟨⟨ds, h1⟩, (by decide : (0:Int) < 1009), ds, h1, tolist (by omega), ⟨by decide, by decide⟩, ?_⟩
        exact ⟨Ext.mut hx hp, NumL.push (n := c % 1009) h2 h3 (Int.emod_nonneg _ (by decide)), l, c / 1009, _, Int.ediv_nonneg hc0 (by decide), rfl⟩
      · rintro E M' ⟨hx, hl, l, c, z, hc0, rfl⟩
        have e : (rngD 0 (40 : Int).toNat).length = 40 := rng_len
        rw [e] at hl
        exact ⟨hx, hl.mono (by omega), l, _, _, _, rfl⟩
    · obtain ⟨ds, h1, h2, h3⟩ := hl
      refine ⟨⟨ds, h1⟩, _, _, rfl, fun r2 => ⟨(by decide : (0:Int) < 1009), ds, h1, tolist (by omega), ?_⟩⟩
      exact ⟨Ext.mut hx hp, (NumL.push (n := (r2 : Int) % 1009) h2 h3 (Int.emod_nonneg _ (by decide))).mono (by omega), r, _, _, _, rfl⟩
  · rintro E M' ⟨hx, hl, l, x, y, z, rfl⟩
    rw [rng_len] at hl
    have hl : NumL M' p 2520 := hl.mono (by
      show 40 * (if ((ns.map D.int).length : Int) < 63 then ((ns.map D.int).length : Int) else 63).toNat ≤ 2520
      rw [List.length_map]
      split <;> omega)
    refine ⟨by omega, by omega, ?_⟩
    refine ⟨fun i E M' => Ext M M' ∧ (NumL M' p (2520 + i) ∧ (0 < i → ∀ ds, M' p = some (.lst ds) → 0 < ds.length)) ∧ ∃ l : Int, ∃ x y z, E = [some (.fl (ns.map D.int)), some (.int m), some (.ref p), some (.int l), x, y, z], ⟨hx, ⟨hl, fun h => absurd h (by omega)⟩, l, x, y, z, rfl⟩, fun _ _ _ _ => trivial, ?_, ?_⟩
    · rintro i E M' d hd ⟨hx, ⟨hl, hq⟩, l, x, y, z, rfl⟩
      obtain ⟨hi, rfl⟩ := rng_at hd
      have hi : i < m := by have : i < (m : Int).toNat := hi; omega
      obtain ⟨ds, h1, h2, h3⟩ := hl
      refine .inl ⟨ds, h1, fun hb => ?_, fun hb => ?_⟩
      · refine .inl ⟨ds, h1, _, _, rfl, fun r => ?_⟩
        refine ⟨⟨ds, h1⟩, (by decide : (0:Int) < 1009), ds, h1, tolist (by omega), ?_⟩
        exact ⟨Ext.mut hx hp, ⟨(NumL.push (n := (r : Int) % 1009) h2 h3 (Int.emod_nonneg _ (by decide))).mono (by omega), fun _ es he => by
          rw [updM_same] at he; cases he; simp⟩, r, _, _, _, rfl⟩
      · have hb := of_decide_eq_false hb
        exact ⟨hx, ⟨⟨ds, h1, by omega, h3⟩, fun _ es he => by rw [h1] at he; cases he; omega⟩, l, _, _, _, rfl⟩
    · rintro E M' ⟨hx, ⟨hl, hq⟩, l, x, y, z, rfl⟩
      rw [rng_len] at hl hq
      obtain ⟨ds, h1, h2, h3⟩ := hl
      have h2 : ds.length ≤ 2520 + (m : Int).toNat := h2
      have hq : 0 < (m : Int).toNat → ∀ ds, M' p = some (.lst ds) → 0 < ds.length := hq
      exact h p M' hp hx ⟨ds, h1, hq (by omega) ds h1, by omega, h3⟩
end Rd

set_option Elab.async false
set_option linter.all false
set_option autoImplicit false
set_option maxRecDepth 100000
set_option maxHeartbeats 4000000
/-! readings: the law's own formulas -/
namespace Rd
open PySem PySem.Spec PyProof.Rows L2 DH Bd
local macro_rules | `(tactic| walk_at "if") => `(tactic| first | (refine ⟨fun _ => ?_, fun hc => absurd hc (by decide)⟩) | (refine ⟨fun hc => absurd hc (by decide), fun _ => ?_⟩))
def sp_two : DSp := fun ds M Q _ => ∃ (o : Op) (w x y : Nat), ds = [.str o.nm, .int w, .int x, .int y] ∧ o.ar = 2 ∧ 1 ≤ w ∧ w ≤ 4 ∧ x < 2 ^ w ∧ y < 2 ^ w ∧ Q (.int (o.v w [x, y])) M
theorem two_ok : ∀ w : Fin 5, ∀ x y : Fin 16, 1 ≤ w.1 → x.1 < 2 ^ w.1 → y.1 < 2 ^ w.1 → ((x.1 : Int) + y.1) % (1 * 2 ^ (w.1 : Int).toNat) = (Op.add.v w.1 [x.1, y.1] : Nat) ∧ ((x.1 : Int) - y.1) % (1 * 2 ^ (w.1 : Int).toNat) = (Op.sub.v w.1 [x.1, y.1] : Nat) ∧
    ((x.1 : Int) * y.1) % (1 * 2 ^ (w.1 : Int).toNat) = (Op.mul.v w.1 [x.1, y.1] : Nat) ∧ ((x.1 : Int) * 2 ^ (y.1 : Int).toNat) % (1 * 2 ^ (w.1 : Int).toNat) = (Op.shl.v w.1 [x.1, y.1] : Nat) ∧
    decide (((x.1 : Int) + (1 * 2 ^ (w.1 : Int).toNat) / 2) % (1 * 2 ^ (w.1 : Int).toNat) < ((y.1 : Int) + (1 * 2 ^ (w.1 : Int).toNat) / 2) % (1 * 2 ^ (w.1 : Int).toNat)) = decide (sgn w.1 x.1 < sgn w.1 y.1) := by decide +kernel
theorem r__law_two : ∀ ds M Q E, sp_two ds M Q E → b__law_two (En Q) (startD 5 ds) M := by
  rintro ds M Q E ⟨o, w, x, y, rfl, ho, h1, h4, hx, hy, h⟩
  refine ⟨cpow w (by omega) (by decide), ?_⟩
  have g := two_ok ⟨w, by omega⟩ ⟨x, sm h4 hx⟩ ⟨y, sm h4 hy⟩ h1 hx hy
  have hp : (0 : Int) < 1 * 2 ^ (w : Int).toNat := by rw [pow_cast]; have := Nat.two_pow_pos w; omega
  have hy4 := sm h4 hy
  have hx4 := sm h4 hx
  cases o <;> first | (exact absurd ho (by decide)) | skip
  case and => walk_at "if"; exact qi h (and_ok x y)
  case or => walk_at "if"; walk_at "if"; exact qi h (or_ok ⟨x, hx4⟩ ⟨y, hy4⟩)
  case xor => iterate 3 walk_at "if"
              exact qi h (xor_ok ⟨x, hx4⟩ ⟨y, hy4⟩)
  case add => iterate 4 walk_at "if"
              exact ⟨hp, qi h g.1⟩
  case sub => iterate 5 walk_at "if"
              exact ⟨hp, qi h g.2.1⟩
  case mul => iterate 6 walk_at "if"
              exact ⟨.inl ⟨by omega, by omega⟩, hp, qi h g.2.2.1⟩
  case shl => iterate 7 walk_at "if"
              exact ⟨⟨by omega, by omega, by omega⟩, hp, qi h g.2.2.2.1⟩
  case shr => iterate 8 walk_at "if"
              exact ⟨by omega, qi h (shr_ok x y)⟩
  case eq => iterate 9 walk_at "if"
             refine qi h (bi_ok _ _ ?_)
             rw [Bool.eq_iff_iff]; simp; omega
  case lt => iterate 10 walk_at "if"
             refine qi h (bi_ok _ _ ?_)
             rw [Bool.eq_iff_iff]; simp
  case slt => iterate 10 walk_at "if"
              exact ⟨⟨by decide, by decide⟩, hp, ⟨by decide, by decide⟩, hp, qi h (bi_ok _ _ g.2.2.2.2)⟩
/-! ### drawn formulas -/
end Rd

set_option Elab.async false
set_option linter.all false
set_option autoImplicit false
set_option maxRecDepth 100000
set_option maxHeartbeats 4000000
/-! readings: the law's own meaning of a formula -/
namespace Rd
open PySem PySem.Spec PyProof.Rows L2 DH Bd
local macro_rules | `(tactic| walk_at "if") => `(tactic| first | (refine ⟨fun _ => ?_, fun hc => absurd hc (by decide)⟩) | (refine ⟨fun hc => absurd hc (by decide), fun _ => ?_⟩))
theorem Ext.lst {M M' : Mm} (e : Ext M M') {a : Addr} {o : MO} (h : M a = some o) : M' a = some o := e a o h
theorem map_snoc {α β : Type} (f : α → β) {l : List α} {i : Nat} {x : α} (h : l[i]? = some x) : (l.take (i + 1)).map f = (l.take i).map f ++ [f x] := by rw [take_snoc h, List.map_append]; rfl
def sp_lvalue (n : Nat) : DSp := fun ds M Q _ => ∃ (d : D) (w : Nat) (a : Addr) (ρ : Str → Nat) (nms : List Str), ds = [d, .int w, .ref a] ∧ 1 ≤ w ∧ w ≤ 4 ∧ wfD w nms d = true ∧ depthD d < n ∧ EnvM M a w ρ nms ∧ RetV M Q (.int (evD w ρ d))
theorem ev1 : ∀ w : Fin 5, ∀ x : Fin 16, 1 ≤ w.1 → x.1 < 2 ^ w.1 → (1 * 2 ^ (w.1 : Int).toNat - 1 - (x.1 : Int)) = ((Op.not.v w.1 [x.1] : Nat) : Int) ∧ ((0 - (x.1 : Int)) % (1 * 2 ^ (w.1 : Int).toNat)) = ((Op.neg.v w.1 [x.1] : Nat) : Int) := by decide +kernel
theorem r__law_value (n : Nat) : ∀ ds M Q E, sp_lvalue (n + 1) ds M Q E → b__law_value (sp_lvalue n) sp_two (En Q) (startD 5 ds) M := by
  rintro ds M Q E ⟨d, w, a, ρ, nms, rfl, hw, h4, hd, hn, he, h⟩
  cases d with
  | int i =>
    walk_at "if"
    refine qi (h M (Ext.refl M)) ?_
    simp only [wfD, Bool.and_eq_true, decide_eq_true_eq] at hd
    simp only [evD]; omega
  | str s =>
    walk_at "if"
    walk_at "if"
    obtain ⟨kvs, h1, h2⟩ := he
    simp only [wfD, decide_eq_true_eq] at hd
    refine .inr ⟨kvs, .inr s, _, h1, rfl, (h2 s hd).1, ?_⟩
    refine qi (h M (Ext.refl M)) ?_
    simp only [evD]
  | tup ds =>
    obtain ⟨o, t, rfl, hl, ht, hev⟩ := op_inv hd
    walk_at "if"
    walk_at "if"
    intro p hp
    have hlt : ∀ x ∈ t.map (evD w ρ), x < 2 ^ w := fun x hx => by
      obtain ⟨d, hd, rfl⟩ := List.mem_map.mp hx
      obtain ⟨kvs, h1, h2⟩ := he
      exact ev_lt hw (fun s hs => (h2 s hs).2) d (ht d hd)
    refine ⟨fun i acc M' => Ext M M' ∧ M' p = some (.lst acc) ∧ acc = (t.take i).map (fun d => D.int (evD w ρ d : Nat)), ⟨Ext.new hp, updM_same, rfl⟩, fun _ _ _ _ => trivial, ?_, ?_⟩
    · rintro i acc M' d hd ⟨hx, hl2, rfl⟩
      rw [cut1] at hd
      have hd : t[i]? = some d := hd
      have hm := mem_at hd
      have h1 := depthD_mem hm
      rw [depthD_tup] at hn
      have hn : depthDs t + 1 < n + 1 := hn
      refine ⟨fun _ => ⟨d, w, a, ρ, nms, rfl, hw, h4, ht d hm, by omega, he.ext hx, fun M1 e1 => ?_⟩, fun hc => absurd hc (by decide)⟩
      have hlt := lt_at hd
      have h3 : o.ar ≤ 3 := by cases o <;> decide
      refine ⟨e1 _ _ hl2, ?_, (hx.trans e1).mut hp, updM_same, (map_snoc _ hd).symm⟩
      rw [List.length_map, List.length_take]
      exact Nat.lt_of_le_of_lt (show min i t.length ≤ 3 by omega) (by decide)
    · rintro acc M' ⟨hx, hl2, rfl⟩
      rw [cut1] at hl2
      have hl2 : M' p = some (.lst ((t.take t.length).map fun d => D.int (evD w ρ d : Nat))) := hl2
      rw [List.take_length, ← wds_map] at hl2
      have h := h M' hx
      rw [hev] at h
      generalize hxs : t.map (evD w ρ) = xs at hl2 h hlt
      have hlx : xs.length = o.ar := by rw [← hxs, List.length_map]; exact hl
      refine ⟨_, at0, ?_⟩
      have one : o.ar = 1 → ∃ x, xs = [x] := fun e => by rw [e] at hlx; match xs, hlx with
        | [x], _ => exact ⟨x, rfl⟩
      have two : o.ar = 2 → ∃ x y, xs = [x, y] := fun e => by rw [e] at hlx; match xs, hlx with
        | [x, y], _ => exact ⟨x, y, rfl⟩
      by_cases hn : o = .not
      · subst hn
        obtain ⟨x, rfl⟩ := one rfl
        walk_at "if"
        refine ⟨cpow w (by omega) (by decide), .inl ⟨_, _, _, hl2, rfl, at0, ?_⟩⟩
        exact qi h (ev1 ⟨w, by omega⟩ ⟨x, sm h4 (hlt x (by simp))⟩ hw (hlt x (by simp))).1
      refine ⟨fun hc => absurd (of_decide_eq_true hc) (by cases o <;> first | exact absurd rfl hn | decide), fun _ => ⟨_, at0, ?_⟩⟩
      by_cases hg : o = .neg
      · subst hg
        obtain ⟨x, rfl⟩ := one rfl
        walk_at "if"
        refine .inl ⟨_, _, _, hl2, rfl, at0, cpow w (by omega) (by decide), ?_⟩
        have hp : (0 : Int) < 1 * 2 ^ (w : Int).toNat := by rw [pow_cast]; have := Nat.two_pow_pos w; omega
        exact ⟨hp, qi h (ev1 ⟨w, by omega⟩ ⟨x, sm h4 (hlt x (by simp))⟩ hw (hlt x (by simp))).2⟩
      refine ⟨fun hc => absurd (of_decide_eq_true hc) (by cases o <;> first | exact absurd rfl hg | decide), fun _ => ⟨_, at0, ?_⟩⟩
      by_cases hk : o = .pick
      · subst hk
        obtain ⟨x, y, z, rfl⟩ : ∃ x y z, xs = [x, y, z] := by
          match xs, hlx with
          | [x, y, z], _ => exact ⟨x, y, z, rfl⟩
        walk_at "if"
        refine .inl ⟨_, _, _, hl2, rfl, at0, ?_⟩
        by_cases hz : x = 0
        · subst hz
          exact .inl ⟨_, _, _, hl2, rfl, (rfl : atI (wds [0, y, z]) 2 = _), h⟩
        · have hb : decide ((x : Int) = 0) = false := decide_eq_false (by omega)
          have h : Q (.int (y : Int)) M' := qi h (by show (y : Int) = ((if x = 0 then z else y : Nat) : Int); rw [if_neg hz])
          refine .inl ⟨_, (1 + if decide ((x : Int) = 0) = true then 1 else 0), .int y, hl2, rfl, ?_, h⟩
          rw [hb]; rfl
      refine ⟨fun hc => absurd (of_decide_eq_true hc) (by cases o <;> first | exact absurd rfl hk | decide), fun _ => ⟨_, at0, ?_⟩⟩
      have h2 : o.ar = 2 := by cases o <;> first | rfl | exact absurd rfl hn | exact absurd rfl hg | exact absurd rfl hk
      obtain ⟨x, y, rfl⟩ := two h2
      refine .inl ⟨_, _, _, hl2, rfl, at0, .inl ⟨_, _, _, hl2, rfl, (rfl : atI (wds [x, y]) 1 = _), ?_⟩⟩
      exact ⟨o, w, x, y, rfl, h2, hw, h4, hlt x (by simp), hlt y (by simp), h⟩
  | _ => simp [wfD] at hd
theorem ar3 (o : Op) : o.ar ≤ 3 ∧ 1 ≤ o.ar := by cases o <;> decide
end Rd

set_option Elab.async false
set_option linter.all false
set_option autoImplicit false
set_option maxRecDepth 100000
set_option maxHeartbeats 4000000
/-! readings: the law's own names and substitution -/
namespace Rd
open PySem PySem.Spec PyProof.Rows L2 DH Bd
local macro_rules | `(tactic| walk_at "if") => `(tactic| first | (refine ⟨fun _ => ?_, fun hc => absurd hc (by decide)⟩) | (refine ⟨fun hc => absurd hc (by decide), fun _ => ?_⟩))
end Rd

set_option Elab.async false
set_option linter.all false
set_option autoImplicit false
set_option maxRecDepth 100000
set_option maxHeartbeats 4000000
/-! readings: rows -/
namespace Rd
open PySem PySem.Spec PyProof.Rows L2 DH Bd
local macro_rules | `(tactic| walk_at "if") => `(tactic| first | (refine ⟨fun _ => ?_, fun hc => absurd hc (by decide)⟩) | (refine ⟨fun hc => absurd hc (by decide), fun _ => ?_⟩))
def rowD (B : Nat) : Nat → Nat → List Nat
  | 0, _ => []
  | k + 1, i => rowD B k (i / B) ++ [i % B]
theorem wds_app (a : List Nat) (j : Nat) : wds a ++ [.int (j : Int)] = wds (a ++ [j]) := by simp [wds]
end Rd

set_option Elab.async false
set_option linter.all false
set_option autoImplicit false
set_option maxRecDepth 100000
set_option maxHeartbeats 4000000
/-! readings: texts -/
namespace Rd
open PySem PySem.Spec PyProof.Rows L2 DH Bd
local macro_rules | `(tactic| walk_at "if") => `(tactic| first | (refine ⟨fun _ => ?_, fun hc => absurd hc (by decide)⟩) | (refine ⟨fun hc => absurd hc (by decide), fun _ => ?_⟩))
theorem three_at : ∀ r : Nat, r < 3 → ∃ m : Nat, ([.int 12, .int 12, .int 17] : List D)[r]? = some (.int m) ∧ 0 < m ∧ m ≤ 17
  | 0, _ => ⟨12, rfl, by decide, by decide⟩
  | 1, _ => ⟨12, rfl, by decide, by decide⟩
  | 2, _ => ⟨17, rfl, by decide, by decide⟩
end Rd

set_option Elab.async false
set_option linter.all false
set_option autoImplicit false
set_option maxRecDepth 100000
set_option maxHeartbeats 4000000
/-! readings: shapes the law draws -/
namespace Rd
open PySem PySem.Spec PyProof.Rows L2 DH Bd
local macro_rules | `(tactic| walk_at "if") => `(tactic| first | (refine ⟨fun _ => ?_, fun hc => absurd hc (by decide)⟩) | (refine ⟨fun hc => absurd hc (by decide), fun _ => ?_⟩))
theorem all_bool {p q : D → Bool} : ∀ {t : List D}, (∀ d ∈ t, p d = q d) → t.all p = t.all q
  | [], _ => rfl
  | d :: t, h => by rw [List.all_cons, List.all_cons, h d (by simp), all_bool fun e he => h e (List.mem_cons_of_mem _ he)]
theorem depths_all {k : Nat} : ∀ t : List D, t.all (fun d => decide (depthD d ≤ k)) = decide (depthDs t ≤ k)
  | [] => by simp [depthDs]
  | d :: t => by
    rw [List.all_cons, depths_all t, Bool.eq_iff_iff]
    simp only [Bool.and_eq_true, decide_eq_true_eq, depthDs]
    exact ⟨fun h => decide_eq_true (Nat.max_le.mpr h), fun h => Nat.max_le.mp (of_decide_eq_true h)⟩
theorem shaped_wf {w : Nat} {nms : List Str} : ∀ (k : Nat) (d : D), wfD w nms d = true → shapedD w nms k d = decide (depthD d ≤ k)
  | k, .int i, h => by
    simp only [wfD] at h
    cases k <;> simp only [shapedD, h, depthD] <;> simp
  | k, .str s, h => by
    simp only [wfD] at h
    cases k <;> simp only [shapedD, h, depthD] <;> simp
  | 0, .tup ds, h => by
    obtain ⟨o, t, rfl, _⟩ := op_inv h
    rw [depthD_tup]; simp [shapedD]
  | k + 1, .tup ds, h => by
    obtain ⟨o, t, rfl, hl, ht, _⟩ := op_inv h
    simp only [shapedD, opOf_of, hl, beq_self_eq_true, Bool.true_and]
    rw [all_bool (q := fun d => decide (depthD d ≤ k)) fun d hd => shaped_wf k d (ht d hd), depths_all, depthD_tup]
    rw [Bool.eq_iff_iff]
    show _ ↔ decide (depthDs t + 1 ≤ k + 1) = true
    simp
  | k, .non, h => by simp [wfD] at h
  | k, .bl _, h => by simp [wfD] at h
  | k, .ref _, h => by simp [wfD] at h
  | k, .ty _, h => by simp [wfD] at h
  | k, .kd _, h => by simp [wfD] at h
  | k, .fl _, h => by simp [wfD] at h
mutual
theorem wf_tree {w : Nat} {nms : List Str} : ∀ d : D, wfD w nms d = true → tree d = true
  | .int _, _ => by simp [tree]
  | .str _, _ => by simp [tree]
  | .tup (.str s :: t), h => by
    simp only [wfD] at h
    split at h
    · have := wf_trees t (Bool.and_eq_true_iff.mp h).2
      simp only [tree, trees, this, Bool.true_and]
    · cases h
  | .tup [], h => by simp [wfD] at h
  | .tup (.int _ :: _), h => by simp [wfD] at h
  | .tup (.tup _ :: _), h => by simp [wfD] at h
  | .tup (.non :: _), h => by simp [wfD] at h
  | .tup (.bl _ :: _), h => by simp [wfD] at h
  | .tup (.ref _ :: _), h => by simp [wfD] at h
  | .tup (.ty _ :: _), h => by simp [wfD] at h
  | .tup (.kd _ :: _), h => by simp [wfD] at h
  | .tup (.fl _ :: _), h => by simp [wfD] at h
  | .non, h => by simp [wfD] at h
  | .bl _, h => by simp [wfD] at h
  | .ref _, h => by simp [wfD] at h
  | .ty _, h => by simp [wfD] at h
  | .kd _, h => by simp [wfD] at h
  | .fl _, h => by simp [wfD] at h
theorem wf_trees {w : Nat} {nms : List Str} : ∀ t : List D, wfDs w nms t = true → trees t = true
  | [], _ => by simp [trees]
  | d :: t, h => by
    simp only [wfDs, Bool.and_eq_true] at h
    simp only [trees, wf_tree d h.1, wf_trees t h.2, Bool.and_self]
end
theorem form_wf {w : Nat} {nms : List Str} {most : Int} {d : D} (h : wfD w nms d = true) : formD w nms most d = (decide ((sizeD d : Int) ≤ most) && decide ((depthD d : Int) ≤ 6)) := by
  unfold formD
  rw [shaped_wf 6 d h, Bool.and_comm]
  congr 1
  rw [Bool.eq_iff_iff]; simp
  omega
/-! ### spoilt formulas -/
end Rd

set_option Elab.async false
set_option linter.all false
set_option autoImplicit false
set_option maxRecDepth 100000
set_option maxHeartbeats 4000000
/-! readings: the law's operations -/
namespace Rd
open PySem PySem.Spec PyProof.Rows L2 DH Bd
local macro_rules | `(tactic| walk_at "if") => `(tactic| first | (refine ⟨fun _ => ?_, fun hc => absurd hc (by decide)⟩) | (refine ⟨fun hc => absurd hc (by decide), fun _ => ?_⟩))
end Rd

set_option Elab.async false
set_option linter.all false
set_option autoImplicit false
set_option maxRecDepth 100000
set_option maxHeartbeats 4000000
/-! readings: dicts and equality, laws -/
namespace Rd
open PySem PySem.Spec PyProof.Rows L2 DH Bd
/-! ### dicts -/
theorem valD_cons (k0 k : Key) (d0 : D) (r : List (Key × D)) : valD ((k0, d0) :: r) k = if k0 = k then some d0 else valD r k := by
  by_cases e : k0 = k
  · simp [valD, e]
  · simp [valD, e]
theorem valD_map (k : Key) (v : D) (k' : Key) : ∀ kvs : List (Key × D), valD (kvs.map fun kv => if kv.1 = k then (kv.1, v) else kv) k' = if k' = k then (if (kvs.any fun kv => decide (kv.1 = k)) = true then some v else none) else valD kvs k'
  | [] => by simp [valD]
  | (k0, d0) :: r => by
    rw [List.map_cons, List.any_cons]
    by_cases e : k0 = k
    · subst e
      have e0 : (if (k0, d0).1 = k0 then ((k0, d0).1, v) else (k0, d0)) = (k0, v) := if_pos rfl
      rw [e0, valD_cons, valD_map k0 v k' r, valD_cons]
      by_cases e2 : k0 = k'
      · subst e2; simp
      · rw [if_neg e2, if_neg (Ne.symm e2), if_neg (Ne.symm e2), if_neg e2]
    · have e0 : (if (k0, d0).1 = k then ((k0, d0).1, v) else (k0, d0)) = (k0, d0) := if_neg e
      rw [e0, valD_cons, valD_map k v k' r, valD_cons]
      by_cases e2 : k0 = k'
      · subst e2; rw [if_pos rfl, if_neg e, if_pos rfl]
      · rw [if_neg e2, if_neg e2, show decide ((k0, d0).1 = k) = false from decide_eq_false e, Bool.false_or]
theorem valD_any (k : Key) : ∀ kvs : List (Key × D), (kvs.any fun kv => decide (kv.1 = k)) = (valD kvs k).isSome
  | [] => by simp [valD]
  | (k0, d0) :: r => by
    rw [List.any_cons, valD_cons, valD_any k r]
    by_cases e : k0 = k
    · simp [e]
    · simp [e]
theorem valD_app (k : Key) (v : D) (k' : Key) : ∀ kvs : List (Key × D), valD (kvs ++ [(k, v)]) k' = match valD kvs k' with
    | some d => some d
    | none => if k = k' then some v else none
  | [] => by rw [List.nil_append, valD_cons]; simp [valD]
  | (k0, d0) :: r => by
    rw [List.cons_append, valD_cons, valD_cons, valD_app k v k' r]
    by_cases e : k0 = k'
    · rw [if_pos e, if_pos e]
    · rw [if_neg e, if_neg e]
theorem putD_val (kvs : List (Key × D)) (k : Key) (v : D) (k' : Key) : valD (putD kvs k v) k' = if k' = k then some v else valD kvs k' := by
  unfold putD
  by_cases h : (kvs.any fun kv => decide (kv.1 = k)) = true
  · rw [if_pos h, valD_map, if_pos h]
  · rw [if_neg h, valD_app]
    rw [valD_any] at h
    by_cases e : k' = k
    · subst e
      rw [if_pos rfl]
      cases q : valD kvs k' with
      | none => simp
      | some d => rw [q] at h; simp at h
    · rw [if_neg e, if_neg (Ne.symm e)]
      cases valD kvs k' <;> rfl
theorem putD_len (kvs : List (Key × D)) (k : Key) (v : D) : (putD kvs k v).length ≤ kvs.length + 1 := by
  unfold putD
  split
  · rw [List.length_map]; omega
  · rw [List.length_append]; simp
/-! ### data that can be compared -/
structure OkD (n : Nat) (d : D) : Prop where
  pu : pureD d = true
  la : (toPD d).canLay0 = true
  de : (toPD d).depth ≤ n
theorem OkD.shaped {n : Nat} {d : D} (h : OkD n d) (hn : n ≤ 64) : SeqAt.shaped (toPD d) = true := by
  unfold SeqAt.shaped
  rw [h.la, decide_eq_true (Nat.le_trans h.de hn)]; rfl
theorem OkD.mono {n m : Nat} {d : D} (h : OkD n d) (l : n ≤ m) : OkD m d := ⟨h.pu, h.la, Nat.le_trans h.de l⟩
theorem ok_int (i : Int) (n : Nat) : OkD n (.int i) := ⟨rfl, rfl, Nat.zero_le _⟩
theorem ok_str {s : Str} (h : PySem.PyData.strOk s = true) (n : Nat) : OkD n (.str s) := ⟨rfl, h, Nat.zero_le _⟩
theorem ok_list {n : Nat} : ∀ {ds : List D}, (∀ d ∈ ds, OkD n d) → pureDs ds = true ∧ PyData.canLayAll0 (toPDs ds) = true ∧ PyData.depthAll (toPDs ds) ≤ n
  | [], _ => ⟨rfl, rfl, Nat.zero_le _⟩
  | d :: ds, h => by
    have h1 := h d (by simp)
    have h2 := ok_list fun e he => h e (List.mem_cons_of_mem _ he)
    refine ⟨?_, ?_, ?_⟩
    · simp only [pureDs, h1.pu, h2.1, Bool.and_self]
    · simp only [toPDs, PyData.canLayAll0, h1.la, h2.2.1, Bool.and_self]
    · simp only [toPDs, PyData.depthAll]
      exact Nat.max_le.mpr ⟨h1.de, h2.2.2⟩
theorem ok_tup {n : Nat} {ds : List D} (h : ∀ d ∈ ds, OkD n d) : OkD (n + 1) (.tup ds) := by
  obtain ⟨h1, h2, h3⟩ := ok_list h
  refine ⟨by simp only [pureD, h1], by simp only [toPD, PyData.canLay0, h2], by simp only [toPD, PyData.depth]; omega⟩
mutual
theorem vw_pure {M : Mm} : ∀ d : D, pureD d = true → Vw M d (toPD d)
  | .non, _ => .non
  | .bl b, _ => .bl b
  | .int i, _ => .int i
  | .str s, _ => .str s
  | .tup ds, h => by
    have h : pureDs ds = true := by simpa only [pureD] using h
    obtain ⟨h1, h2⟩ := vw_pures (M := M) ds h
    simp only [toPD]
    exact .tup _ h1 h2
  | .ref _, h => by simp [pureD] at h
  | .ty _, h => by simp [pureD] at h
  | .kd _, h => by simp [pureD] at h
  | .fl _, h => by simp [pureD] at h
theorem vw_pures {M : Mm} : ∀ ds : List D, pureDs ds = true → ds.length = (toPDs ds).length ∧ ∀ (i : Nat) d p, ds[i]? = some d → (toPDs ds)[i]? = some p → Vw M d p
  | [], _ => ⟨rfl, fun i d p h => by simp at h⟩
  | x :: xs, h => by
    simp only [pureDs, Bool.and_eq_true] at h
    have hx := vw_pure (M := M) x h.1
    obtain ⟨h1, h2⟩ := vw_pures (M := M) xs h.2
    refine ⟨by simp only [toPDs, List.length_cons, h1], fun i d p e1 e2 => ?_⟩
    simp only [toPDs] at e2
    cases i with
    | zero =>
      simp at e1 e2
      subst e1; subst e2; exact hx
    | succ i =>
      simp at e1 e2
      exact h2 i d p e1 e2
end
theorem eq_same {n : Nat} {x : D} {M : Mm} {Q : DQ} (h : OkD n x) (hn : n ≤ 64) (q : Q (.bl true) M) : oEq x x M Q := by
  have gen : scalEq x x = none → oEq x x M Q := fun e => by
    unfold oEq
    rw [e]
    refine .inl ⟨_, _, vw_pure x h.pu, vw_pure x h.pu, h.shaped hn, h.shaped hn, ?_⟩
    rw [SeqAt.eqv_refl _ h.la]; exact q
  cases x with
  | non => exact q
  | bl b => exact qb q (by simp)
  | int i => exact qb q (by simp)
  | str s => exact qb q (by simp)
  | tup ds => exact gen rfl
  | ref a => exact gen rfl
  | ty n => exact gen rfl
  | kd k => exact gen rfl
  | fl k => exact gen rfl
theorem sizes_le {B : Nat} : ∀ {t : List D}, (∀ d ∈ t, sizeD d ≤ B) → sizeDs t ≤ t.length * B
  | [], _ => by simp [sizeDs]
  | d :: t, h => by
    have h1 := h d (by simp)
    have h2 := sizes_le fun e he => h e (List.mem_cons_of_mem _ he)
    simp only [sizeDs, List.length_cons, Nat.succ_mul]; omega
theorem wf_full {w : Nat} {nms : List Str} : ∀ (k : Nat) (d : D), wfD w nms d = true → depthD d ≤ k → fullD d = true
  | k, .int i, _, _ => by simp [fullD]
  | k, .str s, _, _ => by simp [fullD]
  | 0, .tup ds, h, hd => by rw [depthD_tup] at hd; omega
  | k + 1, .tup ds, h, hd => by
    obtain ⟨o, t, rfl, hl, ht, _⟩ := op_inv h
    rw [depthD_tup] at hd
    have hd : depthDs t + 1 ≤ k + 1 := hd
    have hs : ∀ l : List D, (∀ d ∈ l, fullD d = true) → fullDs l = true := fun l => by
      induction l with
      | nil => intro _; simp [fullDs]
      | cons a l ih => intro h; simp only [fullDs, h a (by simp), ih fun x hx => h x (by simp [hx]), Bool.and_self]
    simp only [fullD]
    exact hs t fun d hd2 => wf_full k d (ht d hd2) (by have := depthD_mem hd2; omega)
  | k, .non, h, _ => by simp [wfD] at h
  | k, .bl _, h, _ => by simp [wfD] at h
  | k, .ref _, h, _ => by simp [wfD] at h
  | k, .ty _, h, _ => by simp [wfD] at h
  | k, .kd _, h, _ => by simp [wfD] at h
  | k, .fl _, h, _ => by simp [wfD] at h
/-! ### lists of texts, unequal or equal -/
end Rd

set_option Elab.async false
set_option linter.all false
set_option autoImplicit false
set_option maxRecDepth 100000
set_option maxHeartbeats 8000000
/-! readings: the law -/
namespace Rd
open PySem PySem.Spec PyProof.Rows L2 DH Bd
local macro_rules | `(tactic| walk_at "if") => `(tactic| first | (refine ⟨fun _ => ?_, fun hc => absurd hc (by decide)⟩) | (refine ⟨fun hc => absurd hc (by decide), fun _ => ?_⟩))
theorem four_at : ∀ r : Nat, r < 4 → ∃ m : Nat, ([.int 0, .int 0, .int 4, .int 6] : List D)[r]? = some (.int m) ∧ m ≤ 6
  | 0, _ => ⟨0, rfl, by decide⟩
  | 1, _ => ⟨0, rfl, by decide⟩
  | 2, _ => ⟨4, rfl, by decide⟩
  | 3, _ => ⟨6, rfl, by decide⟩
def sp_law : DSp := fun ds M Q _ => ∃ ns : List Int, ds = [.fl (ns.map D.int)] ∧ ns.length ≤ 63 ∧ ∀ M', Q (.bl true) M'
end Rd

set_option Elab.async false
set_option linter.all false
set_option autoImplicit false
set_option maxRecDepth 100000
set_option maxHeartbeats 4000000
/-! readings: texts that are valid -/
namespace Rd
open PySem PySem.Spec PyProof.Rows L2 DH Bd
local macro_rules | `(tactic| walk_at "if") => `(tactic| first | (refine ⟨fun _ => ?_, fun hc => absurd hc (by decide)⟩) | (refine ⟨fun hc => absurd hc (by decide), fun _ => ?_⟩))
structure TX where
  w : Nat
  ins : List Str
  needs : List D
  lets : List (Str × D)
  outs : List (Nat × D)
def TX.known (t : TX) (i : Nat) : List Str := t.ins ++ (t.lets.take i).map Prod.fst
def okF (w : Nat) (nms : List Str) (d : D) : Prop := wfD w nms d = true ∧ depthD d ≤ 6 ∧ sizeD d ≤ 15
def goodN (s : Str) : Prop := (isNameS s && !isOpS s) = true ∧ s.length ≤ 100
structure TX.Ok (t : TX) : Prop where
  w1 : 1 ≤ t.w
  w4 : t.w ≤ 4
  nd : t.ins.Nodup
  nm : ∀ s ∈ t.ins, goodN s
  i4 : t.ins.length ≤ 4
  bits : t.w * t.ins.length ≤ 8
  n2 : t.needs.length ≤ 2
  nf : ∀ d ∈ t.needs, okF t.w t.ins d
  l60 : t.lets.length ≤ 60
  ln : ∀ (i : Nat) (p : Str × D), t.lets[i]? = some p → goodN p.1 ∧ ¬ p.1 ∈ t.known i ∧ okF t.w (t.known i) p.2
  o4 : t.outs.length ≤ 4
  on : ∀ (i : Nat) (p : Nat × D), t.outs[i]? = some p → p.1 ≤ 3 ∧ okF t.w (t.known t.lets.length) p.2
  oo : ∀ (i : Nat) (p q : Nat × D), t.outs[i]? = some p → t.outs[i + 1]? = some q → p.1 < q.1
def letD (l : List (Str × D)) : List D := l.map fun p => .tup [.str p.1, p.2]
def outD (l : List (Nat × D)) : List D := l.map fun p => .tup [.int (p.1 : Nat), p.2]
def TX.fs (t : TX) : List (Str × D) := [("width", .int t.w), ("inputs", .tup (t.ins.map .str)), ("needs", .tup t.needs), ("lets", .tup (letD t.lets)), ("outs", .tup (outD t.outs))]
def ClT (cl : CF) (C : Addr) : Prop := ∀ f ∈ (["width", "inputs", "needs", "lets", "outs"] : List Str), cl C f
structure TxM (cl : CF) (C : Addr) (M : Mm) (a : Addr) (t : TX) : Prop where
  at_ : M a = some (.ins C t.fs)
  cl : ClT cl C
theorem TxM.ext {cl : CF} {C a : Addr} {M M' : Mm} {t : TX} (h : TxM cl C M a t) (e : Ext M M') : TxM cl C M' a t := ⟨e _ _ h.at_, h.cl⟩
theorem letD_at {l : List (Str × D)} {i : Nat} {p : Str × D} (h : l[i]? = some p) : (letD l)[i]? = some (.tup [.str p.1, p.2]) := by unfold letD; rw [List.getElem?_map, h]; rfl
theorem outD_at {l : List (Nat × D)} {i : Nat} {p : Nat × D} (h : l[i]? = some p) : (outD l)[i]? = some (.tup [.int (p.1 : Nat), p.2]) := by unfold outD; rw [List.getElem?_map, h]; rfl
theorem getE {α : Type} {l : List α} {i : Nat} (h : i < l.length) : l[i]? = some l[i] := List.getElem?_eq_getElem h
theorem cutTo (α : Type) (l : List α) (i : Nat) (h : i ≤ l.length) : cutL α l none (some (i : Int)) = l.take i := by
  unfold cutL HT.sIx
  have : ¬ ((i : Int) < 0) := by omega
  simp [this]
theorem nodup_not_take {l : List Str} {i : Nat} {s : Str} (hn : l.Nodup) (h : l[i]? = some s) : ¬ s ∈ l.take i := by
  intro hm
  obtain ⟨j, hj, e⟩ := List.mem_iff_getElem.mp hm
  rw [List.length_take] at hj
  rw [List.getElem_take] at e
  have hi := lt_at h
  rw [List.getElem?_eq_getElem hi] at h
  have h := Option.some.inj h
  rw [List.Nodup, List.pairwise_iff_getElem] at hn
  exact hn j i (by omega) hi (by omega) (e.trans h.symm)
def sp_bad_input (cl : CF) (C : Addr) : DSp := fun ds M Q _ => ∃ (a : Addr) (t : TX) (i : Nat), ds = [.ref a, .int i] ∧ TxM cl C M a t ∧ t.Ok ∧ i < t.ins.length ∧ Q (.bl false) M
theorem r_bad_input (cl : CF) (C : Addr) : ∀ ds M Q E, sp_bad_input cl C ds M Q E → b_bad_input cl sp_is_value_name (En Q) (startD 3 ds) M := by
  rintro ds M Q E ⟨a, t, i, rfl, tx, ok, hi, h⟩
  have hat := getE hi
  have hm := List.getElem_mem hi
  generalize t.ins[i] = s at hat hm
  have hg := ok.nm s hm
  have hiN : ((t.ins.map D.str))[i]? = some (.str s) := by rw [List.getElem?_map, hat]; rfl
  refine ⟨_, _, _, _, rfl, tx.at_, tx.cl _ (by simp), rfl, ?_⟩
  refine ⟨.str s, atI_nat hiN, ?_⟩
  refine ⟨s, rfl, by have := hg.2; omega, ?_⟩
  rw [hg.1]
  walk_at "if"
  refine ⟨_, _, _, _, rfl, tx.at_, tx.cl _ (by simp), rfl, ?_⟩
  have ec : cutL D (t.ins.map D.str) none (some (i : Int)) = (t.ins.take i).map D.str := by rw [cutTo D _ i (by rw [List.length_map]; omega), List.map_take]
  refine ⟨rfl, by rw [ec]; exact flat_strs _, ?_⟩
  rw [ec, inD_strs, decide_eq_false (nodup_not_take ok.nd hat)]
  walk_at "if"
  have hi4 := ok.i4
  refine ⟨fun hc => absurd (of_decide_eq_true hc) (by omega), fun _ => ?_⟩
  refine ⟨_, _, _, _, rfl, tx.at_, tx.cl _ (by simp), rfl, ?_⟩
  have h4 := ok.w4
  refine ⟨.inl ⟨by omega, by omega⟩, ?_⟩
  refine qb h (decide_eq_false ?_)
  have h1 : t.w * (i + 1) ≤ t.w * t.ins.length := Nat.mul_le_mul_left _ hi
  have h2 := ok.bits
  have h3 : ((t.w * (i + 1) : Nat) : Int) = (t.w : Int) * ((i : Int) + 1) := by push_cast; rfl
  omega
def sp_bad_let (cl : CF) (C : Addr) : DSp := fun ds M Q _ => ∃ (a : Addr) (t : TX) (i : Nat), ds = [.ref a, .int i] ∧ TxM cl C M a t ∧ t.Ok ∧ i < t.lets.length ∧ RetV M Q (.bl false)
theorem r_bad_let (cl : CF) (C : Addr) : ∀ ds M Q E, sp_bad_let cl C ds M Q E → b_bad_let cl sp_is_value_name sp_is_formula (En Q) (startD 6 ds) M := by
  rintro ds M Q E ⟨a, t, i, rfl, tx, ok, hi, h⟩
  have hat := getE hi
  generalize t.lets[i] = p at hat
  obtain ⟨hg, hn, hf⟩ := ok.ln i p hat
  have h60 := ok.l60
  have hi4 := ok.i4
  have h4 := ok.w4
  refine ⟨_, _, _, _, rfl, tx.at_, tx.cl _ (by simp), rfl, ?_⟩
  refine ⟨_, atI_nat (letD_at hat), rfl, ?_⟩
  refine ⟨_, _, _, _, rfl, tx.at_, tx.cl _ (by simp), rfl, ?_⟩
  refine fun q hq => ?_
  have e1 : Ext M (updM M q (.lst (t.ins.map .str))) := Ext.new hq
  have hqm : updM M q (.lst (t.ins.map .str)) q = some (.lst (t.ins.map .str)) := updM_same
  generalize updM M q (.lst (t.ins.map .str)) = M1 at e1 hqm ⊢
  refine ⟨_, _, _, _, rfl, (tx.ext e1).at_, tx.cl _ (by simp), rfl, ?_⟩
  have ec : cutL D (letD t.lets) none (some (i : Int)) = letD (t.lets.take i) := by
    rw [cutTo D _ i (by unfold letD; rw [List.length_map]; omega)]
    unfold letD
    rw [List.map_take]
  refine fun r hr => ?_
  refine ⟨fun j acc M' => Ext M1 M' ∧ M' r = some (.lst acc) ∧ acc = ((t.lets.take i).take j).map (fun p => D.str p.1), ⟨Ext.new hr, updM_same, rfl⟩, fun _ _ _ _ => trivial, ?_, ?_⟩
  · rintro j acc M' d hd ⟨hx, hr2, rfl⟩
    rw [ec] at hd
    unfold letD at hd
    rw [List.getElem?_map] at hd
    obtain ⟨p', hp', rfl⟩ := Option.map_eq_some_iff.mp hd
    refine ⟨fun _ => ⟨_, at0, hr2, tolist (by rw [List.length_map, List.length_take, List.length_take]; omega), hx.mut hr, updM_same, ?_⟩, fun hc => absurd hc (by decide)⟩
    rw [take_snoc hp', List.map_append]; rfl
  · rintro acc M' ⟨hx, hr2, rfl⟩
    rw [ec, show (letD (t.lets.take i)).length = (t.lets.take i).length by unfold letD; rw [List.length_map], List.take_length] at hr2
    refine ⟨_, _, hx _ _ hqm, hr2, by rw [List.length_map, List.length_map, List.length_take]; exact Nat.le_of_lt (tolist (by omega)), fun s hs => ?_⟩
    have e2 := (e1.trans hx).trans (Ext.new (o := .lst (t.ins.map D.str ++ (t.lets.take i).map (fun p => D.str p.1))) hs)
    have hk : t.ins.map D.str ++ (t.lets.take i).map (fun p => D.str p.1) = (t.known i).map D.str := by unfold TX.known; rw [List.map_append, List.map_map]; rfl
    have hsm : updM M' s (.lst (t.ins.map D.str ++ (t.lets.take i).map (fun p => D.str p.1))) s = some (.lst ((t.known i).map .str)) := by rw [updM_same, hk]
    generalize updM M' s (.lst (t.ins.map D.str ++ (t.lets.take i).map (fun p => D.str p.1))) = M2 at e2 hsm ⊢
    refine ⟨p.1, rfl, by have := hg.2; omega, ?_⟩
    rw [hg.1]
    walk_at "if"
    refine .inl ⟨_, hsm, rfl, flat_strs _, ?_⟩
    rw [inD_strs, decide_eq_false hn]
    walk_at "if"
    refine ⟨fun hc => absurd (of_decide_eq_true hc) (by omega), fun _ => ?_⟩
    refine ⟨_, _, _, _, rfl, (tx.ext e2).at_, tx.cl _ (by simp), rfl, ?_⟩
    refine ⟨p.2, .ref s, t.w, 15, t.known i, rfl, .inr ⟨s, rfl, hsm⟩, wf_tree _ hf.1, by omega, ?_⟩
    refine qb (h M2 e2) ?_
    rw [form_wf hf.1, decide_eq_true (show (sizeD p.2 : Int) ≤ 15 by have := hf.2.2; omega), decide_eq_true (show (depthD p.2 : Int) ≤ 6 by have := hf.2.1; omega)]
    rfl
def sp_bad_out (cl : CF) (C : Addr) : DSp := fun ds M Q _ => ∃ (a : Addr) (t : TX) (i : Nat), ds = [.ref a, .int i] ∧ TxM cl C M a t ∧ t.Ok ∧ i < t.outs.length ∧ RetV M Q (.bl false)
theorem r_bad_out (cl : CF) (C : Addr) : ∀ ds M Q E, sp_bad_out cl C ds M Q E → b_bad_out cl sp_is_formula (En Q) (startD 6 ds) M := by
  rintro ds M Q E ⟨a, t, i, rfl, tx, ok, hi, h⟩
  have hat := getE hi
  generalize t.outs[i] = p at hat
  obtain ⟨hg, hf⟩ := ok.on i p hat
  have h60 := ok.l60
  have hi4 := ok.i4
  have h4 := ok.w4
  refine ⟨_, _, _, _, rfl, tx.at_, tx.cl _ (by simp), rfl, ?_⟩
  refine ⟨_, atI_nat (outD_at hat), rfl, ?_⟩
  refine ⟨_, _, _, _, rfl, tx.at_, tx.cl _ (by simp), rfl, ?_⟩
  refine fun q hq => ?_
  have e1 : Ext M (updM M q (.lst (t.ins.map .str))) := Ext.new hq
  have hqm : updM M q (.lst (t.ins.map .str)) q = some (.lst (t.ins.map .str)) := updM_same
  generalize updM M q (.lst (t.ins.map .str)) = M1 at e1 hqm ⊢
  refine ⟨_, _, _, _, rfl, (tx.ext e1).at_, tx.cl _ (by simp), rfl, ?_⟩
  refine fun r hr => ?_
  refine ⟨fun j acc M' => Ext M1 M' ∧ M' r = some (.lst acc) ∧ acc = (t.lets.take j).map (fun p => D.str p.1), ⟨Ext.new hr, updM_same, rfl⟩, fun _ _ _ _ => trivial, ?_, ?_⟩
  · rintro j acc M' d hd ⟨hx, hr2, rfl⟩
    unfold letD at hd
    rw [List.getElem?_map] at hd
    obtain ⟨p', hp', rfl⟩ := Option.map_eq_some_iff.mp hd
    refine ⟨fun _ => ⟨_, at0, hr2, tolist (by rw [List.length_map, List.length_take]; omega), hx.mut hr, updM_same, ?_⟩, fun hc => absurd hc (by decide)⟩
    rw [take_snoc hp', List.map_append]; rfl
  · rintro acc M' ⟨hx, hr2, rfl⟩
    rw [show (letD t.lets).length = t.lets.length by unfold letD; rw [List.length_map]] at hr2
    refine ⟨_, _, hx _ _ hqm, hr2, by rw [List.length_map, List.length_map, List.length_take]; exact Nat.le_of_lt (tolist (by omega)), fun s hs => ?_⟩
    have e2 := (e1.trans hx).trans (Ext.new (o := .lst (t.ins.map D.str ++ (t.lets.take t.lets.length).map (fun p => D.str p.1))) hs)
    have hk : t.ins.map D.str ++ (t.lets.take t.lets.length).map (fun p => D.str p.1) = (t.known t.lets.length).map D.str := by unfold TX.known; rw [List.map_append, List.map_map]; rfl
    have hsm : updM M' s (.lst (t.ins.map D.str ++ (t.lets.take t.lets.length).map (fun p => D.str p.1))) s = some (.lst ((t.known t.lets.length).map .str)) := by rw [updM_same, hk]
    generalize updM M' s (.lst (t.ins.map D.str ++ (t.lets.take t.lets.length).map (fun p => D.str p.1))) = M2 at e2 hsm ⊢
    have fin : Q (.bl (!formD t.w (t.known t.lets.length) 15 p.2)) M2 := by
      refine qb (h M2 e2) ?_
      rw [form_wf hf.1, decide_eq_true (show (sizeD p.2 : Int) ≤ 15 by have := hf.2.2; omega), decide_eq_true (show (depthD p.2 : Int) ≤ 6 by have := hf.2.1; omega)]
      rfl
    have rest : dFld cl "width" (dVar 0) [some (.ref a), some (.int (i : Int)), some (.int (p.1 : Nat)), some p.2, some (.ref s), none] M2 fun x M3 => sp_is_formula [p.2, x, .ref s, .int 15] M3 (fun d M1 => match d with
        | .bl b => Q (.bl (!b)) M1
        | _ => False) EX0 := by
      refine ⟨_, _, _, _, rfl, (tx.ext e2).at_, tx.cl _ (by simp), rfl, ?_⟩
      exact ⟨p.2, .ref s, t.w, 15, t.known t.lets.length, rfl, .inr ⟨s, rfl, hsm⟩, wf_tree _ hf.1, by omega, fin⟩
    refine ⟨fun _ => ?_, fun hc => absurd (of_decide_eq_false hc) (by omega)⟩
    refine ⟨fun hc => absurd hc (by simp; omega), fun _ => ?_⟩
    refine ⟨fun h0 => ?_, fun _ => ⟨fun hc => absurd hc (by decide), fun _ => rest⟩⟩
    have h0 := of_decide_eq_true h0
    refine ⟨_, _, _, _, rfl, (tx.ext e2).at_, tx.cl _ (by simp), rfl, ?_⟩
    match i, hi, hat, h0 with
    | 0, _, _, h0 => exact absurd h0 (by decide)
    | i + 1, hi, hat, _ =>
      have hat2 := getE (show i < t.outs.length by omega)
      generalize t.outs[i] = p' at hat2
      have hlt := ok.oo i p' p hat2 hat
      refine ⟨.tup [.int (p'.1 : Nat), p'.2], ?_, _, at0, fun hc => absurd (of_decide_eq_true hc) (by omega), fun _ => rest⟩
      rw [show (((i + 1 : Nat) : Int) - 1) = (i : Int) by omega]
      exact atI_nat (outD_at hat2)
end Rd

set_option Elab.async false
set_option linter.all false
set_option autoImplicit false
set_option maxRecDepth 100000
set_option maxHeartbeats 4000000
/-! readings: a text is made, its rows, its outputs -/
namespace Rd
open PySem PySem.Spec PyProof.Rows L2 DH Bd
local macro_rules | `(tactic| walk_at "if") => `(tactic| first | (refine ⟨fun _ => ?_, fun hc => absurd hc (by decide)⟩) | (refine ⟨fun hc => absurd hc (by decide), fun _ => ?_⟩))
theorem form_ok {w : Nat} {nms : List Str} {d : D} (hf : okF w nms d) : formD w nms 15 d = true := by
  rw [form_wf hf.1, decide_eq_true (show (sizeD d : Int) ≤ 15 by have := hf.2.2; omega), decide_eq_true (show (depthD d : Int) ≤ 6 by have := hf.2.1; omega)]
  rfl
theorem letD_len (l : List (Str × D)) : (letD l).length = l.length := by unfold letD; rw [List.length_map]
theorem outD_len (l : List (Nat × D)) : (outD l).length = l.length := by unfold outD; rw [List.length_map]
def sp_first_bad_line (cl : CF) (C : Addr) : DSp := fun ds M Q _ => ∃ (a : Addr) (t : TX), ds = [.ref a] ∧ TxM cl C M a t ∧ t.Ok ∧ RetV M Q (.int 0)
theorem r_first_bad_line (cl : CF) (C : Addr) : ∀ ds M Q E, sp_first_bad_line cl C ds M Q E → b_first_bad_line cl (sp_bad_input cl C) sp_is_formula (sp_bad_let cl C) (sp_bad_out cl C) (En Q) (startD 3 ds) M := by
  rintro ds M Q E ⟨a, t, rfl, tx, ok, h⟩
  have w1 := ok.w1
  have w4 := ok.w4
  have i4 := ok.i4
  have n2 := ok.n2
  have l60 := ok.l60
  have o4 := ok.o4
  have q1 : (t.ins.map D.str).length = t.ins.length := List.length_map _
  have q2 := letD_len t.lets
  have q3 := outD_len t.outs
  refine ⟨_, _, _, _, rfl, tx.at_, tx.cl _ (by simp), rfl, ?_⟩
  refine ⟨fun _ => ⟨fun hc => absurd hc (by simp; omega), fun _ => ?_⟩, fun hc => absurd (of_decide_eq_false hc) (by omega)⟩
  refine ⟨_, _, _, _, rfl, tx.at_, tx.cl _ (by simp), rfl, ?_⟩
  refine ⟨by omega, by omega, ?_⟩
  refine ⟨fun i E M' => Ext M M' ∧ ∃ l : Int, ∃ x, E = [some (.ref a), some (.int l), x], ⟨Ext.refl _, 1, none, rfl⟩, fun _ _ _ _ => trivial, ?_, ?_⟩
  · rintro i E M' d hd ⟨hx, l, x, rfl⟩
    obtain ⟨hi, rfl⟩ := rng_at hd
    have hi : i < t.ins.length := by have : i < (((t.ins.map D.str).length : Nat) : Int).toNat := hi; omega
    rw [Int.zero_add]
    refine ⟨a, t, i, rfl, tx.ext hx, ok, hi, ?_⟩
    walk_at "if"
    exact ⟨hx, _, _, rfl⟩
  rintro E M' ⟨hx, l, x, rfl⟩
  refine ⟨_, _, _, _, rfl, (tx.ext hx).at_, tx.cl _ (by simp), rfl, ?_⟩
  refine ⟨by omega, by omega, ?_⟩
  refine ⟨fun i E M' => Ext M M' ∧ ∃ l : Int, ∃ x, E = [some (.ref a), some (.int l), x], ⟨hx, _, _, rfl⟩, fun _ _ _ _ => trivial, ?_, ?_⟩
  · rintro i E M' d hd ⟨hx, l, x, rfl⟩
    obtain ⟨hi, rfl⟩ := rng_at hd
    have hi : i < t.needs.length := by have : i < ((t.needs.length : Nat) : Int).toNat := hi; omega
    rw [Int.zero_add]
    have hat := getE hi
    have hf := ok.nf _ (List.getElem_mem hi)
    generalize t.needs[i] = d at hat hf
    refine ⟨fun hc => absurd (of_decide_eq_true hc) (by omega), fun _ => ?_⟩
    refine ⟨_, _, _, _, rfl, (tx.ext hx).at_, tx.cl _ (by simp), rfl, ?_⟩
    refine ⟨_, atI_nat hat, ?_⟩
    refine ⟨_, _, _, _, rfl, (tx.ext hx).at_, tx.cl _ (by simp), rfl, ?_⟩
    refine ⟨_, _, _, _, rfl, (tx.ext hx).at_, tx.cl _ (by simp), rfl, ?_⟩
    refine ⟨d, .tup (t.ins.map .str), t.w, 15, t.ins, rfl, .inl rfl, wf_tree _ hf.1, by omega, ?_⟩
    rw [form_ok hf]
    walk_at "if"
    exact ⟨hx, _, _, rfl⟩
  rintro E M' ⟨hx, l, x, rfl⟩
  refine ⟨_, _, _, _, rfl, (tx.ext hx).at_, tx.cl _ (by simp), rfl, ?_⟩
  refine ⟨by omega, by omega, ?_⟩
  refine ⟨fun i E M' => Ext M M' ∧ ∃ l : Int, ∃ x, E = [some (.ref a), some (.int l), x], ⟨hx, _, _, rfl⟩, fun _ _ _ _ => trivial, ?_, ?_⟩
  · rintro i E M' d hd ⟨hx, l, x, rfl⟩
    obtain ⟨hi, rfl⟩ := rng_at hd
    have hi : i < t.lets.length := by have : i < (((letD t.lets).length : Nat) : Int).toNat := hi; omega
    rw [Int.zero_add]
    refine ⟨a, t, i, rfl, tx.ext hx, ok, hi, fun M2 e2 => ?_⟩
    walk_at "if"
    exact ⟨hx.trans e2, _, _, rfl⟩
  rintro E M' ⟨hx, l, x, rfl⟩
  refine ⟨_, _, _, _, rfl, (tx.ext hx).at_, tx.cl _ (by simp), rfl, ?_⟩
  refine ⟨by omega, by omega, ?_⟩
  refine ⟨fun i E M' => Ext M M' ∧ ∃ l : Int, ∃ x, E = [some (.ref a), some (.int l), x], ⟨hx, _, _, rfl⟩, fun _ _ _ _ => trivial, ?_, ?_⟩
  · rintro i E M' d hd ⟨hx, l, x, rfl⟩
    obtain ⟨hi, rfl⟩ := rng_at hd
    have hi : i < t.outs.length := by have : i < (((outD t.outs).length : Nat) : Int).toNat := hi; omega
    rw [Int.zero_add]
    refine ⟨a, t, i, rfl, tx.ext hx, ok, hi, fun M2 e2 => ?_⟩
    walk_at "if"
    exact ⟨hx.trans e2, _, _, rfl⟩
  rintro E M' ⟨hx, l, x, rfl⟩
  exact h M' hx
/-! ### making a text -/
/-- all but a stays -/
def But (a : Addr) (M M' : Mm) : Prop := ∀ b o, b ≠ a → M b = some o → M' b = some o
theorem But.refl (a : Addr) (M : Mm) : But a M M := fun _ _ _ h => h
theorem But.trans {a : Addr} {M M1 M2 : Mm} (x : But a M M1) (y : But a M1 M2) : But a M M2 := fun b o n h => y b o n (x b o n h)
theorem But.set {a : Addr} {M M' : Mm} {o : MO} (x : But a M M') : But a M (updM M' a o) := fun b u n h => by rw [updM_ne n]; exact x b u n h
theorem But.ofExt {a : Addr} {M M' : Mm} (e : Ext M M') : But a M M' := fun b o _ h => e b o h
def sp_Text (cl : CF) (C : Addr) : DSp := fun ds M Q _ => ∃ (a q1 q2 q3 q4 : Addr) (t : TX), ds = [.ref a, .int t.w, .ref q1, .ref q2, .ref q3, .ref q4] ∧ ClT cl C ∧ M a = some (.ins C []) ∧ M q1 = some (.lst (t.ins.map .str)) ∧ M q2 = some (.lst t.needs) ∧ M q3 = some (.lst (letD t.lets)) ∧ M q4 = some (.lst (outD t.outs)) ∧
  t.Ok ∧ ∀ M', But a M M' → TxM cl C M' a t → Q .non M'
theorem r_Text__init__ (cl : CF) (C : Addr) : ∀ ds M Q E, sp_Text cl C ds M Q E → b_Text__init__ cl (sp_first_bad_line cl C) (En Q) (startD 10 ds) M := by
  rintro ds M Q E ⟨a, q1, q2, q3, q4, t, rfl, hcl, ha, h1, h2, h3, h4, ok, h⟩
  have n1 : q1 ≠ a := fun z => by subst z; rw [ha] at h1; cases h1
  have n2 : q2 ≠ a := fun z => by subst z; rw [ha] at h2; cases h2
  have n3 : q3 ≠ a := fun z => by subst z; rw [ha] at h3; cases h3
  have n4 : q4 ≠ a := fun z => by subst z; rw [ha] at h4; cases h4
  have l60 := ok.l60
  have o4 := ok.o4
  refine ⟨a, C, [], rfl, ha, hcl _ (by simp), by decide, ?_⟩
  have b1 : But a M (updM M a (.ins C [("width", .int t.w)])) := (But.refl a M).set
  have a1 : updM M a (.ins C [("width", .int t.w)]) a = some (.ins C [("width", .int t.w)]) := updM_same
  show dSeq _ _ _ _ (updM M a (.ins C [("width", .int t.w)]))
  generalize updM M a (.ins C [("width", .int t.w)]) = M1 at b1 a1 ⊢
  refine ⟨_, b1 _ _ n1 h1, a, C, _, rfl, a1, hcl _ (by simp), (by show 1 < 1000; decide), ?_⟩
  have b2 : But a M (updM M1 a (.ins C [("width", .int t.w), ("inputs", .tup (t.ins.map .str))])) := b1.set
  have a2 : updM M1 a (.ins C [("width", .int t.w), ("inputs", .tup (t.ins.map .str))]) a = some (.ins C [("width", .int t.w), ("inputs", .tup (t.ins.map .str))]) := updM_same
  show dSeq _ _ _ _ (updM M1 a (.ins C [("width", .int t.w), ("inputs", .tup (t.ins.map .str))]))
  generalize updM M1 a (.ins C [("width", .int t.w), ("inputs", .tup (t.ins.map .str))]) = M2 at b2 a2 ⊢
  refine ⟨_, b2 _ _ n2 h2, a, C, _, rfl, a2, hcl _ (by simp), (by show 2 < 1000; decide), ?_⟩
  have b3 : But a M (updM M2 a (.ins C [("width", .int t.w), ("inputs", .tup (t.ins.map .str)), ("needs", .tup t.needs)])) := b2.set
  have a3 : updM M2 a (.ins C [("width", .int t.w), ("inputs", .tup (t.ins.map .str)), ("needs", .tup t.needs)]) a = some (.ins C [("width", .int t.w), ("inputs", .tup (t.ins.map .str)), ("needs", .tup t.needs)]) := updM_same
  show dSeq _ _ _ _ (updM M2 a (.ins C [("width", .int t.w), ("inputs", .tup (t.ins.map .str)), ("needs", .tup t.needs)]))
  generalize updM M2 a (.ins C [("width", .int t.w), ("inputs", .tup (t.ins.map .str)), ("needs", .tup t.needs)]) = M3 at b3 a3 ⊢
  refine ⟨_, b3 _ _ n3 h3, fun p hp => ?_⟩
  have l3 := b3 _ _ n3 h3
  refine ⟨fun i acc M' => Ext M3 M' ∧ M' p = some (.lst acc) ∧ acc = letD (t.lets.take i), ⟨Ext.new hp, updM_same, rfl⟩, fun i acc M' ⟨e, _⟩ => e _ _ l3, ?_, ?_⟩
  · rintro i acc M' d hd ⟨hx, hp2, rfl⟩
    unfold letD at hd
    rw [List.getElem?_map] at hd
    obtain ⟨p', hp', rfl⟩ := Option.map_eq_some_iff.mp hd
    refine ⟨rfl, fun _ => ⟨by show 2 ≤ sizeLine; decide, hp2, by rw [letD_len, List.length_take]; exact tolist (by omega), hx.mut hp, updM_same, ?_⟩, fun hc => absurd hc (by decide)⟩
    rw [take_snoc hp']; unfold letD; rw [List.map_append]; rfl
  rintro acc M' ⟨hx, hp2, rfl⟩
  rw [letD_len, List.take_length] at hp2
  have b3' := b3.trans (.ofExt hx)
  refine ⟨_, hp2, a, C, _, rfl, hx _ _ a3, hcl _ (by simp), (by show 3 < 1000; decide), ?_⟩
  have b4 : But a M (updM M' a (.ins C [("width", .int t.w), ("inputs", .tup (t.ins.map .str)), ("needs", .tup t.needs), ("lets", .tup (letD t.lets))])) := b3'.set
  have a4 : updM M' a (.ins C [("width", .int t.w), ("inputs", .tup (t.ins.map .str)), ("needs", .tup t.needs), ("lets", .tup (letD t.lets))]) a = some (.ins C [("width", .int t.w), ("inputs", .tup (t.ins.map .str)), ("needs", .tup t.needs), ("lets", .tup (letD t.lets))]) := updM_same
  show dSeq _ _ _ _ (updM M' a (.ins C [("width", .int t.w), ("inputs", .tup (t.ins.map .str)), ("needs", .tup t.needs), ("lets", .tup (letD t.lets))]))
  generalize updM M' a (.ins C [("width", .int t.w), ("inputs", .tup (t.ins.map .str)), ("needs", .tup t.needs), ("lets", .tup (letD t.lets))]) = M4 at b4 a4 ⊢
  have l4 := b4 _ _ n4 h4
  refine ⟨_, l4, fun p hp => ?_⟩
  refine ⟨fun i acc M' => Ext M4 M' ∧ M' p = some (.lst acc) ∧ acc = outD (t.outs.take i), ⟨Ext.new hp, updM_same, rfl⟩, fun i acc M' ⟨e, _⟩ => e _ _ l4, ?_, ?_⟩
  · rintro i acc M' d hd ⟨hx, hp2, rfl⟩
    unfold outD at hd
    rw [List.getElem?_map] at hd
    obtain ⟨p', hp', rfl⟩ := Option.map_eq_some_iff.mp hd
    refine ⟨rfl, fun _ => ⟨by show 2 ≤ sizeLine; decide, hp2, by rw [outD_len, List.length_take]; exact tolist (by omega), hx.mut hp, updM_same, ?_⟩, fun hc => absurd hc (by decide)⟩
    rw [take_snoc hp']; unfold outD; rw [List.map_append]; rfl
  rintro acc M' ⟨hx, hp2, rfl⟩
  rw [outD_len, List.take_length] at hp2
  have b4' := b4.trans (.ofExt hx)
  refine ⟨_, hp2, a, C, _, rfl, hx _ _ a4, hcl _ (by simp), (by show 4 < 1000; decide), ?_⟩
  have b5 : But a M (updM M' a (.ins C t.fs)) := b4'.set
  have a5 : updM M' a (.ins C t.fs) a = some (.ins C t.fs) := updM_same
  show dSeq _ _ _ _ (updM M' a (.ins C t.fs))
  generalize updM M' a (.ins C t.fs) = M5 at b5 a5 ⊢
  refine ⟨a, t, rfl, ⟨a5, hcl⟩, ok, fun M6 e6 => ?_⟩
  walk_at "if"
  exact h M6 (b5.trans (.ofExt e6)) ⟨e6 _ _ a5, hcl⟩
/-! ### rows and outputs -/
def rho0 : List Str → List Nat → Str → Nat
  | n :: ns, x :: xs, s => if s = n then x else rho0 ns xs s
  | _, _, _ => 0
theorem rho0_at : ∀ {ins : List Str} {xs : List Nat} {i : Nat} {n : Str} {x : Nat}, ins.Nodup → ins[i]? = some n → xs[i]? = some x → rho0 ins xs n = x
  | [], _, i, _, _, _, h, _ => by simp at h
  | _ :: _, [], i, _, _, _, _, h => by simp at h
  | m :: ns, y :: xs, 0, n, x, _, h1, h2 => by
    simp at h1 h2
    subst h1; subst h2
    simp [rho0]
  | m :: ns, y :: xs, i + 1, n, x, hn, h1, h2 => by
    simp at h1 h2
    rw [List.nodup_cons] at hn
    have : n ≠ m := fun e => hn.1 (e ▸ List.mem_of_getElem? h1)
    simp only [rho0, if_neg this]
    exact rho0_at hn.2 h1 h2
def EnvL (M : Mm) (a : Addr) (w : Nat) (ρ : Str → Nat) (nms : List Str) (n : Nat) : Prop := ∃ kvs, M a = some (.dk kvs) ∧ kvs.length ≤ n ∧ ∀ s ∈ nms, valD kvs (.inr s) = some (.int (ρ s)) ∧ ρ s < 2 ^ w
theorem EnvL.env {M : Mm} {a : Addr} {w : Nat} {ρ : Str → Nat} {nms : List Str} {n : Nat} (h : EnvL M a w ρ nms n) : EnvM M a w ρ nms := let ⟨kvs, h1, _, h2⟩ := h; ⟨kvs, h1, h2⟩
theorem EnvL.ext {M M' : Mm} {a : Addr} {w : Nat} {ρ : Str → Nat} {nms : List Str} {n : Nat} (h : EnvL M a w ρ nms n) (e : Ext M M') : EnvL M' a w ρ nms n := let ⟨kvs, h1, h2⟩ := h; ⟨kvs, e _ _ h1, h2⟩
/-- one more name -/
theorem EnvL.put {M' : Mm} {a : Addr} {w : Nat} {ρ ρ' : Str → Nat} {nms : List Str} {n : Nat} {s : Str} {v : Nat} {kvs : List (Key × D)} (hl : kvs.length ≤ n) (h : ∀ s ∈ nms, valD kvs (.inr s) = some (.int (ρ s)) ∧ ρ s < 2 ^ w) (hs : ¬ s ∈ nms) (hv : v < 2 ^ w) (h1 : ρ' s = v) (h2 : ∀ s' ∈ nms, ρ' s' = ρ s') (hm : M' a = some (.dk (putD kvs (.inr s) (.int v)))) : EnvL M' a w ρ' (nms ++ [s]) (n + 1) := by
  refine ⟨_, hm, by have := putD_len kvs (.inr s) (.int v); omega, fun s' hs' => ?_⟩
  rw [putD_val]
  rcases List.mem_append.mp hs' with hs' | hs'
  · have : s' ≠ s := fun e => hs (e ▸ hs')
    rw [if_neg (fun z => this (by cases z; rfl)), h2 s' hs']
    exact h s' hs'
  · cases List.mem_singleton.mp hs'
    rw [if_pos rfl, h1]
    exact ⟨rfl, hv⟩
def RowOk (t : TX) (xs : List Nat) : Prop := xs.length = t.ins.length ∧ ∀ x ∈ xs, x < 2 ^ t.w
def RetE (M : Mm) (Q : DQ) (w : Nat) (ρ : Str → Nat) (nms : List Str) (n : Nat) : Prop := ∀ p M', M p = none → Ext M M' → EnvL M' p w ρ nms n → Q (.ref p) M'
def sp_row_env (cl : CF) (C : Addr) : DSp := fun ds M Q _ => ∃ (a : Addr) (t : TX) (xs : List Nat), ds = [.ref a, .tup (wds xs)] ∧ TxM cl C M a t ∧ t.Ok ∧ RowOk t xs ∧ RetE M Q t.w (rho0 t.ins xs) t.ins 4
theorem wds_at {xs : List Nat} {i : Nat} {d : D} (h : (wds xs)[i]? = some d) : ∃ x, xs[i]? = some x ∧ d = .int (x : Nat) := by
  rw [List.getElem?_map] at h
  obtain ⟨x, h1, h2⟩ := Option.map_eq_some_iff.mp h
  exact ⟨x, h1, h2.symm⟩
theorem strs_at {l : List Str} {i : Nat} {d : D} (h : (l.map D.str)[i]? = some d) : ∃ x, l[i]? = some x ∧ d = .str x := by
  rw [List.getElem?_map] at h
  obtain ⟨x, h1, h2⟩ := Option.map_eq_some_iff.mp h
  exact ⟨x, h1, h2.symm⟩
theorem r_row_env (cl : CF) (C : Addr) : ∀ ds M Q E, sp_row_env cl C ds M Q E → b_row_env cl (En Q) (startD 5 ds) M := by
  rintro ds M Q E ⟨a, t, xs, rfl, tx, ok, hr, h⟩
  have i4 := ok.i4
  refine fun p hp => ?_
  have e0 : Ext M (updM M p (.dk [])) := Ext.new hp
  refine ⟨_, _, _, _, rfl, (tx.ext e0).at_, tx.cl _ (by simp), rfl, ?_⟩
  refine ⟨fun i E M' => Ext M M' ∧ EnvL M' p t.w (rho0 t.ins xs) (t.ins.take i) i ∧ ∃ x y, E = [some (.ref a), some (.tup (wds xs)), some (.ref p), x, y], ⟨e0, ⟨[], updM_same, Nat.le_refl _, by simp⟩, none, none, rfl⟩, fun _ _ _ _ => trivial, ?_, ?_⟩
  · rintro i E M' d hd ⟨hx, ⟨kvs, hk, hl, hv⟩, x, y, rfl⟩
    obtain ⟨u, v, h1, h2, rfl⟩ := zip_at hd
    obtain ⟨n, hn, rfl⟩ := strs_at h1
    obtain ⟨z, hz, rfl⟩ := wds_at h2
    have hi := lt_at hn
    refine ⟨rfl, .inr ⟨kvs, .inr n, hk, rfl, tolist (by omega), hx.mut hp, ?_, _, _, rfl⟩⟩
    rw [take_snoc hn]
    exact EnvL.put (ρ := rho0 t.ins xs) hl hv (nodup_not_take ok.nd hn) (hr.2 z (mem_at hz)) (rho0_at ok.nd hn hz) (fun _ _ => rfl) updM_same
  · rintro E M' ⟨hx, ⟨kvs, hk, hl, hv⟩, x, y, rfl⟩
    have e : (zipD (t.ins.map D.str) (wds xs)).length = t.ins.length := by rw [zip_len, List.length_map, List.length_map, hr.1]; omega
    rw [e] at hl hv
    rw [List.take_length] at hv
    exact h p M' hp hx ⟨kvs, hk, by omega, hv⟩
def keepD (t : TX) (xs : List Nat) : Bool := t.needs.all fun d => decide (evD t.w (rho0 t.ins xs) d ≠ 0)
def TX.rows (t : TX) : Nat := (2 ^ t.w) ^ t.ins.length
theorem TX.Ok.rows {t : TX} (ok : t.Ok) : t.rows ≤ 256 := by
  unfold TX.rows
  rw [← Nat.pow_mul]
  exact Nat.pow_le_pow_right (n := 2) (by decide) ok.bits
def rhoN (t : TX) (xs : List Nat) (i : Nat) : Str → Nat := (t.lets.take i).foldl (fun ρ p => fun s => if s = p.1 then evD t.w ρ p.2 else ρ s) (rho0 t.ins xs)
theorem rhoN_succ {t : TX} {xs : List Nat} {i : Nat} {p : Str × D} (h : t.lets[i]? = some p) : rhoN t xs (i + 1) = fun s => if s = p.1 then evD t.w (rhoN t xs i) p.2 else rhoN t xs i s := by
  unfold rhoN
  rw [take_snoc h, List.foldl_append]; rfl
def outsD (t : TX) (xs : List Nat) (n : Nat) : List D := (t.outs.take n).map fun p => .tup [.int (p.1 : Nat), .int (evD t.w (rhoN t xs t.lets.length) p.2 : Nat)]
def sp_text_outputs (cl : CF) (C : Addr) : DSp := fun ds M Q _ => ∃ (a : Addr) (t : TX) (xs : List Nat), ds = [.ref a, .tup (wds xs)] ∧ TxM cl C M a t ∧ t.Ok ∧ RowOk t xs ∧ RetV M Q (.tup (outsD t xs t.outs.length))
theorem known_succ {t : TX} {i : Nat} {p : Str × D} (h : t.lets[i]? = some p) : t.known (i + 1) = t.known i ++ [p.1] := by
  unfold TX.known
  rw [take_snoc h, List.map_append, List.append_assoc]; rfl
theorem r_text_outputs (cl : CF) (C : Addr) : ∀ ds M Q E, sp_text_outputs cl C ds M Q E → b_text_outputs cl (sp_row_env cl C) (sp_value 8) (En Q) (startD 7 ds) M := by
  rintro ds M Q E ⟨a, t, xs, rfl, tx, ok, hr, h⟩
  have l60 := ok.l60
  have o4 := ok.o4
  refine ⟨a, t, xs, rfl, tx, ok, hr, fun p M1 hp e1 he => ?_⟩
  refine ⟨_, _, _, _, rfl, (tx.ext e1).at_, tx.cl _ (by simp), rfl, ?_⟩
  refine ⟨fun i E M' => Ext M M' ∧ EnvL M' p t.w (rhoN t xs i) (t.known i) (4 + i) ∧ ∃ x y z u, E = [some (.ref a), some (.tup (wds xs)), some (.ref p), x, y, z, u], ⟨e1, by
    unfold TX.known
    rw [List.take_zero, List.map_nil, List.append_nil]
    exact he, none, none, none, none, rfl⟩, fun _ _ _ _ => trivial, ?_, ?_⟩
  · rintro i E M' d hd ⟨hx, hev, x, y, z, u, rfl⟩
    unfold letD at hd
    rw [List.getElem?_map] at hd
    obtain ⟨p', hp', rfl⟩ := Option.map_eq_some_iff.mp hd
    obtain ⟨hg, hn, hf⟩ := ok.ln i p' hp'
    have hi := lt_at hp'
    refine ⟨rfl, ?_⟩
    refine ⟨_, _, _, _, rfl, (tx.ext hx).at_, tx.cl _ (by simp), rfl, ?_⟩
    refine ⟨p'.2, t.w, p, rhoN t xs i, t.known i, rfl, ok.w1, ok.w4, hf.1, by have := hf.2.1; omega, hev.env, fun M2 e2 => ?_⟩
    obtain ⟨kvs, hk, hl, hv⟩ := hev.ext e2
    refine .inr ⟨kvs, .inr p'.1, hk, rfl, tolist (by omega), (hx.trans e2).mut hp, ?_, _, _, _, _, rfl⟩
    rw [known_succ hp', show 4 + (i + 1) = 4 + i + 1 by omega]
    refine EnvL.put (ρ := rhoN t xs i) hl hv hn (ev_lt ok.w1 (fun s hs => (hv s hs).2) p'.2 hf.1) ?_ (fun s' hs' => ?_) updM_same
    · rw [rhoN_succ hp']
      exact if_pos rfl
    · rw [rhoN_succ hp']
      exact if_neg fun (e : s' = p'.1) => hn (e ▸ hs')
  · rintro E M' ⟨hx, hev, x, y, z, u, rfl⟩
    rw [letD_len] at hev
    refine ⟨by show 0 ≤ sizeLine; decide, fun r hr2 => ?_⟩
    have e2 : Ext M' (updM M' r (.lst [])) := Ext.new hr2
    refine ⟨_, _, _, _, rfl, ((tx.ext hx).ext e2).at_, tx.cl _ (by simp), rfl, ?_⟩
    refine ⟨fun i E M2 => Ext M' M2 ∧ M2 r = some (.lst (outsD t xs i)) ∧ ∃ x y z, E = [some (.ref a), some (.tup (wds xs)), some (.ref p), x, y, some (.ref r), z], ⟨e2, updM_same, _, _, _, rfl⟩, fun _ _ _ _ => trivial, ?_, ?_⟩
    · rintro i E M2 d hd ⟨hx2, hl, x, y, z, rfl⟩
      unfold outD at hd
      rw [List.getElem?_map] at hd
      obtain ⟨p', hp', rfl⟩ := Option.map_eq_some_iff.mp hd
      obtain ⟨hg, hf⟩ := ok.on i p' hp'
      have hi := lt_at hp'
      refine ⟨rfl, ⟨_, hl⟩, ?_⟩
      refine ⟨_, _, _, _, rfl, ((tx.ext hx).ext hx2).at_, tx.cl _ (by simp), rfl, ?_⟩
      refine ⟨p'.2, t.w, p, rhoN t xs t.lets.length, t.known t.lets.length, rfl, ok.w1, ok.w4, hf.1, by have := hf.2.1; omega, (hev.ext hx2).env, fun M3 e3 => ?_⟩
      refine ⟨by show 2 ≤ sizeLine; decide, _, e3 _ _ hl, tolist (by unfold outsD; rw [List.length_map, List.length_take]; omega), (hx2.trans e3).mut hr2, ?_, _, _, _, rfl⟩
      rw [updM_same]
      unfold outsD
      rw [take_snoc hp', List.map_append]; rfl
    · rintro E M2 ⟨hx2, hl, x, y, z, rfl⟩
      rw [outD_len] at hl
      exact ⟨_, hl, h M2 (hx.trans hx2)⟩
end Rd

set_option Elab.async false
set_option linter.all false
set_option autoImplicit false
set_option maxRecDepth 100000
set_option maxHeartbeats 4000000
/-! readings: the law of k87, its own meaning of a text -/
namespace Rd
open PySem PySem.Spec PyProof.Rows L2 DH Bd
local macro_rules | `(tactic| walk_at "if") => `(tactic| first | (refine ⟨fun _ => ?_, fun hc => absurd hc (by decide)⟩) | (refine ⟨fun hc => absurd hc (by decide), fun _ => ?_⟩))
theorem range_get {m k : Nat} (h : k < m) : (List.range m)[k]? = some k := List.getElem?_range h
structure DaM (M : Mm) (a : Addr) (t : TX) : Prop where
  ex : ∃ a1 a2 a3 a4, M a = some (.lst [.int t.w, .ref a1, .ref a2, .ref a3, .ref a4]) ∧ M a1 = some (.lst (t.ins.map .str)) ∧ M a2 = some (.lst t.needs) ∧ M a3 = some (.lst (letD t.lets)) ∧ M a4 = some (.lst (outD t.outs))
theorem DaM.ext {M M' : Mm} {a : Addr} {t : TX} (h : DaM M a t) (e : Ext M M') : DaM M' a t := let ⟨a1, a2, a3, a4, h0, h1, h2, h3, h4⟩ := h.ex; ⟨a1, a2, a3, a4, e _ _ h0, e _ _ h1, e _ _ h2, e _ _ h3, e _ _ h4⟩
theorem ne_same {n : Nat} {x : D} {M : Mm} {Q : DQ} (h : OkD n x) (hn : n ≤ 64) (q : Q (.bl false) M) : oNe x x M Q := by
  have gen : scalEq x x = none → oNe x x M Q := fun e => by
    unfold oNe
    rw [e]
    refine ⟨_, _, vw_pure x h.pu, vw_pure x h.pu, h.shaped hn, h.shaped hn, ?_⟩
    rw [SeqAt.eqv_refl _ h.la]; exact q
  cases x with
  | non => exact q
  | bl b => exact qb q (by simp)
  | int i => exact qb q (by simp)
  | str s => exact qb q (by simp)
  | tup ds => exact gen rfl
  | ref a => exact gen rfl
  | ty n => exact gen rfl
  | kd k => exact gen rfl
  | fl k => exact gen rfl
theorem ok_wds (xs : List Nat) : OkD 1 (.tup (wds xs)) := ok_tup fun d hd => by
  obtain ⟨x, _, rfl⟩ := List.mem_map.mp hd
  exact ok_int _ _
end Rd

set_option Elab.async false
set_option linter.all false
set_option autoImplicit false
set_option maxRecDepth 100000
set_option maxHeartbeats 8000000
/-! readings: the law of k87, its draw of a text -/
namespace Rd
open PySem PySem.Spec PyProof.Rows L2 DH Bd
local macro_rules | `(tactic| walk_at "if") => `(tactic| first | (refine ⟨fun _ => ?_, fun hc => absurd hc (by decide)⟩) | (refine ⟨fun hc => absurd hc (by decide), fun _ => ?_⟩))
theorem at_last {α : Type} (l : List α) (x : α) : atI (l ++ [x]) (-1) = some x := by
  unfold atI ixN
  rw [if_neg (by decide), List.length_append, if_pos (by simp; omega)]
  have e : ((-1 : Int) + ((l.length + [x].length : Nat) : Int)).toNat = l.length := by simp; omega
  rw [e]
  show (l ++ [x])[l.length]? = some x
  simp
def names4 : List Str := ["x", "y1", "zeta", "in4put"]
def nmK (r k : Nat) : Str := (⟨#[("abcdefg" : Str).cps.toList.getD r 0]⟩ : Str) ++ ((toString ((k : Nat) : Int) : String) : Str)
def digV (s : Str) : Nat := (s.cps.toList.drop 1).foldl (fun n c => n * 10 + (c - 48)) 0
def szB : Nat → Nat
  | 0 => 1
  | k + 1 => 1 + 3 * szB k
theorem szB_pos : ∀ k, 1 ≤ szB k
  | 0 => Nat.le_refl _
  | k + 1 => by simp only [szB]; omega
theorem wf_szB {w : Nat} {nms : List Str} : ∀ (k : Nat) (d : D), wfD w nms d = true → depthD d ≤ k → sizeD d ≤ szB k
  | k, .int i, _, _ => by simp only [sizeD]; exact szB_pos k
  | k, .str s, _, _ => by simp only [sizeD]; exact szB_pos k
  | 0, .tup ds, h, hd => by rw [depthD_tup] at hd; omega
  | k + 1, .tup ds, h, hd => by
    obtain ⟨o, t, rfl, hl, ht, _⟩ := op_inv h
    rw [depthD_tup] at hd
    have hd : depthDs t + 1 ≤ k + 1 := hd
    rw [sizeD_tup]
    have h1 : sizeDs t ≤ t.length * szB k := sizes_le fun d hd2 => wf_szB k d (ht d hd2) (by have := depthD_mem hd2; omega)
    have h2 : t.length * szB k ≤ 3 * szB k := Nat.mul_le_mul_right _ (by rw [hl]; exact (ar3 o).1)
    show 1 + sizeDs t ≤ szB (k + 1)
    simp only [szB]; omega
  | k, .non, h, _ => by simp [wfD] at h
  | k, .bl _, h, _ => by simp [wfD] at h
  | k, .ref _, h, _ => by simp [wfD] at h
  | k, .ty _, h, _ => by simp [wfD] at h
  | k, .kd _, h, _ => by simp [wfD] at h
  | k, .fl _, h, _ => by simp [wfD] at h
/-- the lets so far -/
structure LetsOk (w : Nat) (ins : List Str) (l : List (Str × D)) : Prop where
  ok : ∀ (i : Nat) (p : Str × D), l[i]? = some p → (∃ r, r < 7 ∧ p.1 = nmK r i) ∧ okF w (ins ++ (l.take i).map Prod.fst) p.2
theorem LetsOk.push {w : Nat} {ins : List Str} {l : List (Str × D)} {r : Nat} {d : D} (h : LetsOk w ins l) (hr : r < 7) (hd : okF w (ins ++ l.map Prod.fst) d) : LetsOk w ins (l ++ [(nmK r l.length, d)]) := ⟨fun i p hp => by
  by_cases hi : i < l.length
  · rw [List.getElem?_append_left hi] at hp
    rw [List.take_append_of_le_length (by omega)]
    exact h.ok i p hp
  · have hlt := lt_at hp
    rw [List.length_append] at hlt
    have hi : i = l.length := by have : [(nmK r l.length, d)].length = 1 := rfl; omega
    subst hi
    have hp : p = (nmK r l.length, d) := by simpa using hp.symm
    subst hp
    refine ⟨⟨r, hr, rfl⟩, ?_⟩
    rw [List.take_append_of_le_length (Nat.le_refl _), List.take_length]
    exact hd⟩
end Rd

set_option Elab.async false
set_option linter.all false
set_option autoImplicit false
set_option maxRecDepth 100000
set_option maxHeartbeats 8000000
/-! readings: the law of k87, a drawn text -/
namespace Rd
open PySem PySem.Spec PyProof.Rows L2 DH Bd
local macro_rules | `(tactic| walk_at "if") => `(tactic| first | (refine ⟨fun _ => ?_, fun hc => absurd hc (by decide)⟩) | (refine ⟨fun hc => absurd hc (by decide), fun _ => ?_⟩))
theorem log_small {k : Nat} (h : k ≤ 100) : ((k : Int).natAbs).log2 < 1920 := by
  have := Nat.log2_le_self k
  have e : (k : Int).natAbs = k := Int.natAbs_natCast k
  rw [e]; omega
end Rd

set_option Elab.async false
set_option linter.all false
set_option autoImplicit false
set_option maxRecDepth 100000
set_option maxHeartbeats 8000000
/-! readings: the law of k87 -/
namespace Rd
open PySem PySem.Spec PyProof.Rows L2 DH Bd
local macro_rules | `(tactic| walk_at "if") => `(tactic| first | (refine ⟨fun _ => ?_, fun hc => absurd hc (by decide)⟩) | (refine ⟨fun hc => absurd hc (by decide), fun _ => ?_⟩))
def keptL (t : TX) (n : Nat) : List D := (List.range n).map fun i => .bl (keepD t (rowD (2 ^ t.w) t.ins.length i))
theorem But.da {M M' : Mm} {x a : Addr} {t : TX} (h : DaM M a t) (b : But x M M') (hx : M x = none) : DaM M' a t :=
  let ⟨a1, a2, a3, a4, h0, h1, h2, h3, h4⟩ := h.ex
  have ne : ∀ y o, M y = some o → y ≠ x := fun y o q z => by subst z; rw [hx] at q; cases q
  ⟨a1, a2, a3, a4, b _ _ (ne _ _ h0) h0, b _ _ (ne _ _ h1) h1, b _ _ (ne _ _ h2) h2, b _ _ (ne _ _ h3) h3, b _ _ (ne _ _ h4) h4⟩
end Rd

set_option Elab.async false
set_option linter.all false
set_option autoImplicit false
set_option maxRecDepth 100000
set_option maxHeartbeats 4000000
/-! readings for k88: books, steps; plain meaning -/
namespace Rk
open PySem PySem.Spec PyProof.Rows L2 DH Bd Rd
/-! ### names of a formula -/
def abk : List Str := ["a", "b", "k"]
def hasA (f : D) : Bool := decide (("a" : Str) ∈ namesD f)
def hasB (f : D) : Bool := decide (("b" : Str) ∈ namesD f)
def hasK (f : D) : Bool := decide (("k" : Str) ∈ namesD f)
def srcN (f : D) : Nat := (if hasA f then 1 else 0) + (if hasB f then 1 else 0)
mutual
/-- with repeats -/
def lnamesD : D → List Str
  | .str s => [s]
  | .tup (_ :: t) => lnamesDs t
  | _ => []
def lnamesDs : List D → List Str
  | [] => []
  | d :: t => lnamesD d ++ lnamesDs t
end
theorem mem_addN (s : Str) : ∀ (m f : List Str), s ∈ addN f m ↔ s ∈ f ∨ s ∈ m := by
  intro m
  induction m with
  | nil => intro f; simp [addN]
  | cons x m ih =>
    intro f
    simp only [addN, List.foldl_cons] at ih ⊢
    by_cases h : x ∈ f
    · have := ih f
      simp only [h, if_true, List.mem_cons] at this ⊢
      rw [this]
      constructor
      · rintro (q | q) <;> simp [q]
      · rintro (q | q | q)
        · exact .inl q
        · exact .inl (q ▸ h)
        · exact .inr q
    · have := ih (f ++ [x])
      simp only [h, if_false, List.mem_cons] at this ⊢
      rw [this, List.mem_append, List.mem_singleton, or_assoc]
mutual
theorem mem_lnames (s : Str) : ∀ d : D, s ∈ namesD d ↔ s ∈ lnamesD d
  | .str z => by simp [namesD, lnamesD]
  | .tup [] => by simp [namesD, lnamesD]
  | .tup (x :: t) => by
    simp only [namesD, lnamesD]
    rw [mem_lnamess s t []]
    simp
  | .int _ => by simp [namesD, lnamesD]
  | .non => by simp [namesD, lnamesD]
  | .bl _ => by simp [namesD, lnamesD]
  | .ref _ => by simp [namesD, lnamesD]
  | .ty _ => by simp [namesD, lnamesD]
  | .kd _ => by simp [namesD, lnamesD]
  | .fl _ => by simp [namesD, lnamesD]
theorem mem_lnamess (s : Str) : ∀ (t : List D) (f : List Str), s ∈ namesDs f t ↔ s ∈ f ∨ s ∈ lnamesDs t
  | [], f => by simp [namesDs, lnamesDs]
  | d :: t, f => by
    simp only [namesDs, lnamesDs]
    rw [mem_lnamess s t, mem_addN, mem_lnames s d, List.mem_append, or_assoc]
end
mutual
/-- a well-formed formula is one over its own names -/
theorem wf_own {w : Nat} {nms ms : List Str} : ∀ d : D, wfD w nms d = true → (∀ s ∈ lnamesD d, s ∈ ms) → wfD w ms d = true
  | .int i, h, _ => by simpa only [wfD] using h
  | .str s, h, q => by simp only [wfD]; exact decide_eq_true (q s (by simp [lnamesD]))
  | .tup ds, h, q => by
    obtain ⟨o, t, rfl, hl, ht, _⟩ := op_inv h
    have h2 : wfDs w nms t = true := by
      simp only [wfD, opOf_of] at h
      exact (Bool.and_eq_true_iff.mp h).2
    simp only [wfD, opOf_of]
    rw [wf_owns t h2 (fun s hs => q s (by simpa only [lnamesD] using hs)), hl]
    simp
  | .non, h, _ => by simp [wfD] at h
  | .bl _, h, _ => by simp [wfD] at h
  | .ref _, h, _ => by simp [wfD] at h
  | .ty _, h, _ => by simp [wfD] at h
  | .kd _, h, _ => by simp [wfD] at h
  | .fl _, h, _ => by simp [wfD] at h
theorem wf_owns {w : Nat} {nms ms : List Str} : ∀ t : List D, wfDs w nms t = true → (∀ s ∈ lnamesDs t, s ∈ ms) → wfDs w ms t = true
  | [], _, _ => by simp [wfDs]
  | d :: t, h, q => by
    simp only [wfDs, Bool.and_eq_true] at h ⊢
    exact ⟨wf_own d h.1 fun s hs => q s (by simp [lnamesDs, hs]), wf_owns t h.2 fun s hs => q s (by simp [lnamesDs, hs])⟩
end
/-! ### books -/
structure BK where
  w : Nat
  r : Nat
  words : List Nat
  deeds : List (Str × Nat × D)
def deedD (d : Str × Nat × D) : D := .tup [.str d.1, .int (d.2.1 : Nat), d.2.2]
def BK.fs (b : BK) : List (Str × D) := [("width", .int b.w), ("registers", .int b.r), ("words", .tup (wds b.words)), ("deeds", .tup (b.deeds.map deedD))]
structure BK.Ok (b : BK) : Prop where
  w1 : 1 ≤ b.w
  w4 : b.w ≤ 4
  r1 : 1 ≤ b.r
  r4 : b.r ≤ 4
  bits : b.w * b.r ≤ 8
  wl : b.words.length ≤ 16
  wlt : ∀ x ∈ b.words, x < 2 ^ b.w
  asc : b.words.Pairwise (· < ·)
  d1 : 1 ≤ b.deeds.length
  d6 : b.deeds.length ≤ 6
  nd : (b.deeds.map (·.1)).Nodup
  nm : ∀ d ∈ b.deeds, isNameS d.1 = true ∧ d.1.length ≤ 1000 ∧ PyData.strOk d.1 = true
  pr : ∀ d ∈ b.deeds, 1 ≤ d.2.1 ∧ d.2.1 ≤ 9
  fm : ∀ d ∈ b.deeds, wfD b.w abk d.2.2 = true ∧ depthD d.2.2 ≤ 6 ∧ sizeD d.2.2 ≤ 9
  ba : ∀ d ∈ b.deeds, hasB d.2.2 = true → hasA d.2.2 = true
def ClB (cl : CF) (C : Addr) : Prop := ∀ f ∈ (["width", "registers", "words", "deeds"] : List Str), cl C f
structure BkM (cl : CF) (C : Addr) (M : Mm) (a : Addr) (b : BK) : Prop where
  at_ : M a = some (.ins C b.fs)
  cl : ClB cl C
theorem BkM.ext {cl : CF} {C a : Addr} {M M' : Mm} {b : BK} (h : BkM cl C M a b) (e : Ext M M') : BkM cl C M' a b := ⟨e _ _ h.at_, h.cl⟩
/-! ### steps -/
structure ST where
  nm : Str
  src : List Int
  wd : Option Int
  tg : Int
def wdD : Option Int → D
  | none => .non
  | some i => .int i
def stD (s : ST) : D := .tup [.str s.nm, .tup (s.src.map .int), wdD s.wd, .int s.tg]
def BK.find (b : BK) (n : Str) : Option (Str × Nat × D) := b.deeds.find? fun d => decide (d.1 = n)
def wdOk (b : BK) : Option Int → Bool
  | none => true
  | some i => decide (i ∈ b.words.map Int.ofNat)
def srcOk (b : BK) (x : Int) : Bool := decide (0 ≤ x) && decide (x < b.r)
def stepOk (b : BK) (s : ST) (f : D) : Bool := (decide (s.src.length = srcN f) && (decide (0 ≤ s.tg) && decide (s.tg < b.r))) && ((hasK f == s.wd.isSome) && wdOk b s.wd) && s.src.all (srcOk b)
def isStep (b : BK) (s : ST) : Bool := match b.find s.nm with
  | none => false
  | some d => stepOk b s d.2.2
def srcRows (r : Nat) : Nat → List (List Nat)
  | 0 => [[]]
  | n + 1 => (srcRows r n).flatMap fun row => (List.range r).map fun x => row ++ [x]
def wordsOf (b : BK) (f : D) : List (Option Int) := if hasK f then b.words.map (fun x : Nat => some (x : Int)) else [none]
def deedSteps (b : BK) (d : Str × Nat × D) : List ST := (srcRows b.r (srcN d.2.2)).flatMap fun row => (wordsOf b d.2.2).flatMap fun wd => (List.range b.r).map fun t : Nat => ⟨d.1, row.map Int.ofNat, wd, (t : Int)⟩
def BK.steps (b : BK) : List ST := b.deeds.flatMap (deedSteps b)
def stepCount (b : BK) (f : D) : Nat := b.r * b.r ^ srcN f * (if hasK f then b.words.length else 1)
def counts (b : BK) : Nat → List Nat
  | 0 => [1]
  | n + 1 => let c := counts b n; c ++ [((b.deeds.map fun d => if d.2.1 ≤ n + 1 then stepCount b d.2.2 * c.getD (n + 1 - d.2.1) 0 else 0)).sum]
abbrev EnX (Q : DQ) (E : DX) : DEnds := { nx := fun _ M' => Q .non M', rt := Q, xc := fun cls d _ M' => E cls d M' }
/-! ### small lemmas -/
theorem srcN_le (f : D) : srcN f ≤ 2 := by unfold srcN; split <;> split <;> omega
theorem BK.Ok.tree {b : BK} (ok : b.Ok) {d : Str × Nat × D} (h : d ∈ b.deeds) : tree d.2.2 = true := wf_tree _ (ok.fm d h).1
end Rk

set_option Elab.async false
set_option linter.all false
set_option autoImplicit false
set_option maxRecDepth 100000
set_option maxHeartbeats 4000000
/-! readings for k88: sources, words, rows of sources -/
namespace Rk
open PySem PySem.Spec PyProof.Rows L2 DH Bd Rd
local macro_rules | `(tactic| walk_at "if") => `(tactic| first | (refine ⟨fun _ => ?_, fun hc => absurd hc (by decide)⟩) | (refine ⟨fun hc => absurd hc (by decide), fun _ => ?_⟩))
/-- a formula that may be asked for its names -/
structure FmOk (f : D) : Prop where
  tr : tree f = true
  de : depthD f ≤ 6
  sz : sizeD f ≤ 100000
theorem BK.Ok.fmOk {b : BK} (ok : b.Ok) {d : Str × Nat × D} (h : d ∈ b.deeds) : FmOk d.2.2 := ⟨ok.tree h, (ok.fm d h).2.1, by have := (ok.fm d h).2.2; omega⟩
theorem b2n (a b : Bool) : ((if a then (1 : Int) else 0) + if b then (1 : Int) else 0) = (((if a then 1 else 0) + (if b then 1 else 0) : Nat) : Int) := by cases a <;> cases b <;> rfl
def sp_source_count : DSp := fun ds M Q _ => ∃ f, ds = [f] ∧ FmOk f ∧ RetV M Q (.int (srcN f : Nat))
theorem r_source_count : ∀ ds M Q E, sp_source_count ds M Q E → b_source_count (sp_names 8) (En Q) (startD 2 ds) M := by
  rintro ds M Q E ⟨f, rfl, ok, h⟩
  refine ⟨f, rfl, ok.tr, by have := ok.de; omega, ok.sz, fun p M1 hp x1 hm => ?_⟩
  refine .inl ⟨_, hm, rfl, flat_strs _, ?_⟩
  rw [inD_strs]
  refine .inl ⟨_, hm, rfl, flat_strs _, ?_⟩
  rw [inD_strs]
  exact qi (h M1 x1) (b2n (hasA f) (hasB f))
def sp_takes_word : DSp := fun ds M Q _ => ∃ f, ds = [f] ∧ FmOk f ∧ RetV M Q (.bl (hasK f))
theorem r_takes_word : ∀ ds M Q E, sp_takes_word ds M Q E → b_takes_word (sp_names 8) (En Q) (startD 1 ds) M := by
  rintro ds M Q E ⟨f, rfl, ok, h⟩
  refine ⟨f, rfl, ok.tr, by have := ok.de; omega, ok.sz, fun p M1 hp x1 hm => ?_⟩
  refine .inl ⟨_, hm, rfl, flat_strs _, ?_⟩
  rw [inD_strs]
  exact h M1 x1
/-! ### the law's own names -/
def sp_lnames2 (n : Nat) : DSp := fun ds M Q _ => ∃ d, ds = [d] ∧ tree d = true ∧ depthD d < n ∧ sizeD d ≤ 100000 ∧ RetL M Q ((lnamesD d).map D.str)
mutual
theorem lnames_len : ∀ d : D, (lnamesD d).length ≤ sizeD d
  | .str s => by simp [lnamesD, sizeD]
  | .tup [] => by simp [lnamesD, sizeD]
  | .tup (x :: t) => by
    have := lnames_lens t
    simp only [lnamesD, sizeD]
    omega
  | .int _ => by simp [lnamesD, sizeD]
  | .non => by simp [lnamesD, sizeD]
  | .bl _ => by simp [lnamesD, sizeD]
  | .ref _ => by simp [lnamesD, sizeD]
  | .ty _ => by simp [lnamesD, sizeD]
  | .kd _ => by simp [lnamesD, sizeD]
  | .fl _ => by simp [lnamesD, sizeD]
theorem lnames_lens : ∀ t : List D, (lnamesDs t).length ≤ sizeDs t
  | [] => by simp [lnamesDs, sizeDs]
  | d :: t => by
    have h1 := lnames_len d
    have h2 := lnames_lens t
    simp only [lnamesDs, sizeDs, List.length_append]; omega
end
theorem lnamesDs_snoc (d : D) : ∀ t : List D, lnamesDs (t ++ [d]) = lnamesDs t ++ lnamesD d
  | [] => by simp [lnamesDs]
  | x :: t => by
    simp only [List.cons_append, lnamesDs]
    rw [lnamesDs_snoc d t, List.append_assoc]
theorem r__law_names_v2 (n : Nat) : ∀ ds M Q E, sp_lnames2 (n + 1) ds M Q E → b__law_names_v2 (sp_lnames2 n) (En Q) (startD 3 ds) M := by
  rintro ds M Q E ⟨d, rfl, ht, hn, hz, h⟩
  cases d with
  | int i =>
    walk_at "if"
    refine ⟨Nat.zero_le _, fun p hp => ?_⟩
    walk_at "if"
    exact h p _ hp (Ext.new hp) updM_same
  | str s =>
    walk_at "if"
    exact ⟨(by show 1 ≤ sizeLine; decide), fun p hp => h p _ hp (Ext.new hp) updM_same⟩
  | tup ds =>
    walk_at "if"
    refine ⟨Nat.zero_le _, fun p hp => ?_⟩
    walk_at "if"
    have e0 : lnamesD (.tup ds) = lnamesDs (ds.drop 1) := by cases ds <;> simp [lnamesD, lnamesDs]
    have hz2 : ∀ i, (lnamesDs ((ds.drop 1).take i)).length ≤ 100000 := fun i => by
      have h1 := lnames_lens ((ds.drop 1).take i)
      rw [sizeD_tup] at hz
      have := sizeDs_take (ds.drop 1) i
      omega
    refine ⟨fun i E M' => Ext M M' ∧ ∃ q x, M q = none ∧ M' q = some (.lst ((lnamesDs ((ds.drop 1).take i)).map D.str)) ∧ E = [some (.tup ds), some (.ref q), x], ⟨Ext.new hp, p, none, hp, updM_same, rfl⟩, fun _ _ _ _ => trivial, ?_, ?_⟩
    · rintro i E M' d hd ⟨hx, q, x, hq, hl, rfl⟩
      rw [cut1] at hd
      have hm := mem_at hd
      have h1 := depthD_mem hm
      rw [depthD_tup] at hn
      have hsd : sizeD d ≤ 100000 := by
        rw [sizeD_tup] at hz
        have := sizeD_mem hm
        omega
      refine ⟨d, rfl, tree_tup ht d (drop_mem hm), by omega, hsd, fun q2 M1 hq2 e1 hl1 => ?_⟩
      have l3 := lnames_len d
      refine ⟨_, _, e1 _ _ hl, hl1, ?_, fun q3 hq3 => ?_⟩
      · rw [List.length_map, List.length_map]
        have := hz2 i
        exact Nat.le_of_lt (tolist (by omega))
      · refine ⟨(hx.trans e1).trans (Ext.new hq3), q3, some d, (hx.trans e1).back hq3, ?_, rfl⟩
        rw [updM_same, take_snoc hd, lnamesDs_snoc, List.map_append]
    · rintro E M' ⟨hx, q, x, hq, hl, rfl⟩
      refine h q M' hq hx ?_
      rw [cut1, List.take_length] at hl
      rw [e0]; exact hl
  | _ => simp [tree] at ht
/-! ### rows of sources -/
def rowsD (l : List (List Nat)) : List D := l.map fun row => .tup (wds row)
theorem rowsD_app (a b : List (List Nat)) : rowsD (a ++ b) = rowsD a ++ rowsD b := by unfold rowsD; rw [List.map_append]
theorem srcRows_len (r : Nat) (h : r ≤ 4) : ∀ n, n ≤ 3 → (srcRows r n).length ≤ 100 := by
  intro n hn
  have : ∀ r : Fin 5, ∀ n : Fin 4, (srcRows r.1 n.1).length ≤ 100 := by decide
  exact this ⟨r, by omega⟩ ⟨n, by omega⟩
theorem srcRows_row (r : Nat) : ∀ (n : Nat) (row : List Nat), row ∈ srcRows r n → row.length = n
  | 0, row, h => by simp [srcRows] at h; rw [h]; rfl
  | n + 1, row, h => by
    simp only [srcRows, List.mem_flatMap, List.mem_map] at h
    obtain ⟨a, ha, x, _, rfl⟩ := h
    rw [List.length_append, srcRows_row r n a ha]; rfl
theorem fm_len (r : Nat) : ∀ l : List (List Nat), (l.flatMap fun row => (List.range r).map fun x => row ++ [x]).length = l.length * r
  | [] => by simp
  | a :: l => by
    rw [List.flatMap_cons, List.length_append, fm_len r l, List.length_map, List.length_range, List.length_cons, Nat.succ_mul, Nat.add_comm]
end Rk

set_option Elab.async false
set_option linter.all false
set_option autoImplicit false
set_option maxRecDepth 100000
set_option maxHeartbeats 4000000
/-! readings for k88: a valid book is made -/
namespace Rk
open PySem PySem.Spec PyProof.Rows L2 DH Bd Rd
local macro_rules | `(tactic| walk_at "if") => `(tactic| first | (refine ⟨fun _ => ?_, fun hc => absurd hc (by decide)⟩) | (refine ⟨fun hc => absurd hc (by decide), fun _ => ?_⟩))
theorem nmul (a b : Nat) : ((a : Int) * (b : Int)) = ((a * b : Nat) : Int) := by push_cast; rfl
/-! ### nothing breaks a rule -/
theorem wds_at {l : List Nat} {i x : Nat} (h : l[i]? = some x) : (wds l)[i]? = some (.int x) := by rw [List.getElem?_map, h]; rfl
def sp_bad_words (cl : CF) (CB : Addr) : DSp := fun ds M Q _ => ∃ (a : Addr) (b : BK), ds = [.ref a] ∧ BkM cl CB M a b ∧ b.Ok ∧ RetV M Q (.bl false)
theorem r_bad_words (cl : CF) (CB : Addr) : ∀ ds M Q E, sp_bad_words cl CB ds M Q E → b_bad_words cl sp_word_limit (En Q) (startD 2 ds) M := by
  rintro ds M Q E ⟨a, b, rfl, bm, ok, h⟩
  have wl := ok.wl
  have w4 := ok.w4
  have el : (wds b.words).length = b.words.length := List.length_map ..
  refine ⟨_, _, _, _, rfl, bm.at_, bm.cl _ (by simp), rfl, ?_⟩
  refine ⟨by rw [el]; omega, by rw [el]; omega, ?_⟩
  refine ⟨fun i E M' => M' = M ∧ ∃ x, E = [some (.ref a), x], ⟨rfl, none, rfl⟩, fun _ _ _ _ => trivial, ?_, ?_⟩
  · rintro i E M' d hd ⟨rfl, x, rfl⟩
    obtain ⟨hi, rfl⟩ := rng_at hd
    have hi : i < b.words.length := by rw [el] at hi; have : i < (b.words.length : Int).toNat := hi; omega
    rw [Int.zero_add]
    have hat := getE hi
    have hlt := ok.wlt _ (List.getElem_mem hi)
    generalize hv : b.words[i] = v at hat hlt
    refine ⟨_, _, _, _, rfl, bm.at_, bm.cl _ (by simp), rfl, ?_⟩
    refine ⟨.int v, atI_nat (wds_at hat), ?_⟩
    refine ⟨fun _ => ?_, fun hc => ?_⟩
    rotate_left
    · have hc : decide ((0 : Int) ≤ (v : Int)) = false := hc
      exact absurd (of_decide_eq_false hc) (by omega)
    refine ⟨_, _, _, _, rfl, bm.at_, bm.cl _ (by simp), rfl, ?_⟩
    refine ⟨b.w, rfl, by omega, ?_⟩
    refine ⟨fun hc => ?_, fun _ => ?_⟩
    · have hc : (!decide ((v : Int) < ((2 ^ b.w : Nat) : Int))) = true := hc
      exact absurd (Int.ofNat_lt.mpr hlt) (of_decide_eq_false ((Bool.not_eq_true' _).mp hc))
    refine ⟨fun hb => ?_, fun hb => ?_⟩
    rotate_left
    · walk_at "if"
      exact ⟨rfl, _, rfl⟩
    have hb : 0 < i := by have := of_decide_eq_true hb; omega
    obtain ⟨j, rfl⟩ : ∃ j, i = j + 1 := ⟨i - 1, by omega⟩
    have hat2 := getE (show j < b.words.length by omega)
    refine ⟨_, _, _, _, rfl, bm.at_, bm.cl _ (by simp), rfl, ?_⟩
    refine ⟨.int v, atI_nat (wds_at hat), ?_⟩
    refine ⟨_, _, _, _, rfl, bm.at_, bm.cl _ (by simp), rfl, ?_⟩
    refine ⟨.int (b.words[j]'(by omega) : Nat), ?_, ?_⟩
    · rw [show (((j + 1 : Nat) : Int) - 1) = (j : Int) by omega]
      exact atI_nat (wds_at hat2)
    have hlt2 : b.words[j]'(by omega) < v := by
      have := List.pairwise_iff_getElem.mp ok.asc j (j + 1) (by omega) hi (by omega)
      rw [hv] at this; exact this
    refine ⟨fun hc => ?_, fun _ => ⟨rfl, _, rfl⟩⟩
    have hc : decide ((v : Int) ≤ ((b.words[j]'(by omega) : Nat) : Int)) = true := hc
    exact absurd (of_decide_eq_true hc) (by omega)
  · rintro E M' ⟨rfl, x, rfl⟩
    exact h _ (Ext.refl _)
theorem deedD_at {l : List (Str × Nat × D)} {i : Nat} {d : Str × Nat × D} (h : l[i]? = some d) : (l.map deedD)[i]? = some (deedD d) := by rw [List.getElem?_map, h]; rfl
theorem form_of {w : Nat} {f : D} (h : wfD w abk f = true ∧ depthD f ≤ 6 ∧ sizeD f ≤ 9) : formD w abk 9 f = true := by
  unfold formD
  rw [shaped_wf 6 f h.1, decide_eq_true h.2.1, Bool.true_and, decide_eq_true_eq]
  omega
def sp_bad_deed (cl : CF) (CB : Addr) : DSp := fun ds M Q _ => ∃ (a : Addr) (b : BK) (i : Nat), ds = [.ref a, .int i] ∧ BkM cl CB M a b ∧ b.Ok ∧ i < b.deeds.length ∧ RetV M Q (.bl false)
theorem r_bad_deed (cl : CF) (CB : Addr) : ∀ ds M Q E, sp_bad_deed cl CB ds M Q E → b_bad_deed cl sp_is_name sp_is_formula (sp_names 8) (En Q) (startD 7 ds) M := by
  rintro ds M Q E ⟨a, b, i, rfl, bm, ok, hi, h⟩
  have hat := getE hi
  have hm := List.getElem_mem hi
  have d6 := ok.d6
  have w4 := ok.w4
  generalize hv : b.deeds[i] = v at hat hm
  obtain ⟨n1, n2, n3⟩ := ok.nm v hm
  obtain ⟨p1, p2⟩ := ok.pr v hm
  have hba := ok.ba v hm
  have fo := ok.fmOk hm
  have ff := form_of (ok.fm v hm)
  refine ⟨_, _, _, _, rfl, bm.at_, bm.cl _ (by simp), rfl, ?_⟩
  refine ⟨_, atI_nat (deedD_at hat), rfl, ?_⟩
  refine ⟨fun hc => absurd (of_decide_eq_true hc) (by omega), fun _ => ?_⟩
  refine ⟨v.1, rfl, n2, ?_⟩
  rw [n1]
  walk_at "if"
  refine ⟨_, _, _, _, rfl, bm.at_, bm.cl _ (by simp), rfl, ?_⟩
  have ec : cutL D (b.deeds.map deedD) none (some (i : Int)) = (b.deeds.take i).map deedD := by
    rw [cutTo D _ i (by rw [List.length_map]; omega), List.map_take]
  refine fun r hr => ?_
  refine ⟨fun j acc M' => Ext M M' ∧ M' r = some (.lst acc) ∧ acc = (((b.deeds.take i).take j).map (·.1)).map D.str, ⟨Ext.new hr, updM_same, rfl⟩, fun _ _ _ _ => trivial, ?_, ?_⟩
  · rintro j acc M' d hd ⟨hx, hr2, rfl⟩
    rw [ec, List.getElem?_map] at hd
    obtain ⟨p', hp', rfl⟩ := Option.map_eq_some_iff.mp hd
    refine ⟨fun _ => ⟨_, at0, hr2, tolist (by simp; omega), hx.mut hr, updM_same, ?_⟩, fun hc => absurd hc (by decide)⟩
    rw [take_snoc hp', List.map_append, List.map_append]; rfl
  rintro acc M' ⟨hx, hr2, rfl⟩
  rw [ec, show ((b.deeds.take i).map deedD).length = (b.deeds.take i).length by rw [List.length_map], List.take_length] at hr2
  have hnin : ¬ v.1 ∈ (b.deeds.take i).map (·.1) := fun hmem => by
    obtain ⟨j, hj, e⟩ := List.mem_iff_getElem.mp hmem
    rw [List.length_map, List.length_take] at hj
    rw [List.getElem_map, List.getElem_take] at e
    have := List.pairwise_iff_getElem.mp ok.nd j i (by rw [List.length_map]; omega) (by rw [List.length_map]; exact hi) (by omega)
    rw [List.getElem_map, List.getElem_map, e, hv] at this
    exact this rfl
  refine .inl ⟨_, hr2, rfl, flat_strs _, ?_⟩
  rw [inD_strs, decide_eq_false hnin]
  walk_at "if"
  refine ⟨fun _ => ?_, fun hc => ?_⟩
  rotate_left
  · have hc : decide ((1 : Int) ≤ ((v.2.1 : Nat) : Int)) = false := hc
    exact absurd (of_decide_eq_false hc) (by omega)
  refine ⟨fun hc => ?_, fun _ => ?_⟩
  · have hc : (!decide (((v.2.1 : Nat) : Int) ≤ 9)) = true := hc
    simp at hc; omega
  refine ⟨_, _, _, _, rfl, (bm.ext hx).at_, bm.cl _ (by simp), rfl, ?_⟩
  refine ⟨by show 3 ≤ sizeLine; decide, ?_⟩
  refine ⟨v.2.2, .tup (abk.map D.str), b.w, 9, abk, rfl, .inl rfl, fo.tr, by omega, ?_⟩
  rw [ff]
  walk_at "if"
  refine ⟨v.2.2, rfl, fo.tr, by have := fo.de; omega, fo.sz, fun p M1 hp x1 hm1 => ?_⟩
  refine .inl ⟨_, hm1, rfl, flat_strs _, ?_⟩
  rw [inD_strs]
  refine ⟨fun hb => ?_, fun hb => ?_⟩
  · have ha := hba hb
    refine .inl ⟨_, hm1, rfl, flat_strs _, ?_⟩
    rw [inD_strs]
    refine qb (h M1 (hx.trans x1)) ?_
    have ha : decide (("a" : Str) ∈ namesD v.2.2) = true := ha
    show (!decide (("a" : Str) ∈ namesD v.2.2)) = false
    rw [ha]; rfl
  · exact h M1 (hx.trans x1)
def sp_first_bad_line2 (cl : CF) (CB : Addr) : DSp := fun ds M Q _ => ∃ (a : Addr) (b : BK), ds = [.ref a] ∧ BkM cl CB M a b ∧ b.Ok ∧ RetV M Q (.int 0)
theorem r_first_bad_line_v2 (cl : CF) (CB : Addr) : ∀ ds M Q E, sp_first_bad_line2 cl CB ds M Q E → b_first_bad_line_v2 cl (sp_bad_words cl CB) (sp_bad_deed cl CB) (En Q) (startD 2 ds) M := by
  rintro ds M Q E ⟨a, b, rfl, bm, ok, h⟩
  have w1 := ok.w1
  have w4 := ok.w4
  have r1 := ok.r1
  have r4 := ok.r4
  have bits := ok.bits
  have d1 := ok.d1
  have d6 := ok.d6
  have el : (b.deeds.map deedD).length = b.deeds.length := List.length_map ..
  refine ⟨_, _, _, _, rfl, bm.at_, bm.cl _ (by simp), rfl, ?_⟩
  refine ⟨fun _ => ?_, fun hc => ?_⟩
  rotate_left
  · have hc : decide ((1 : Int) ≤ ((b.w : Nat) : Int)) = false := hc
    exact absurd (of_decide_eq_false hc) (by omega)
  refine ⟨fun hc => ?_, fun _ => ?_⟩
  · have hc : (!decide (((b.w : Nat) : Int) ≤ 4)) = true := hc
    simp at hc; omega
  refine ⟨_, _, _, _, rfl, bm.at_, bm.cl _ (by simp), rfl, ?_⟩
  refine ⟨fun _ => ?_, fun hc => ?_⟩
  rotate_left
  · have hc : decide ((1 : Int) ≤ ((b.r : Nat) : Int)) = false := hc
    exact absurd (of_decide_eq_false hc) (by omega)
  refine ⟨fun hc => ?_, fun _ => ?_⟩
  · have hc : (!decide (((b.r : Nat) : Int) ≤ 4)) = true := hc
    simp at hc; omega
  refine ⟨_, _, _, _, rfl, bm.at_, bm.cl _ (by simp), rfl, ?_⟩
  refine ⟨_, _, _, _, rfl, bm.at_, bm.cl _ (by simp), rfl, ?_⟩
  refine ⟨.inl ⟨by omega, by omega⟩, ?_⟩
  refine ⟨fun hc => ?_, fun _ => ?_⟩
  · have hc : decide ((8 : Int) < ((b.w : Nat) : Int) * ((b.r : Nat) : Int)) = true := hc
    have := of_decide_eq_true hc
    rw [nmul] at this; omega
  refine ⟨a, b, rfl, bm, ok, fun M1 x1 => ?_⟩
  walk_at "if"
  have bm1 := bm.ext x1
  refine ⟨_, _, _, _, rfl, bm1.at_, bm1.cl _ (by simp), rfl, ?_⟩
  refine ⟨by rw [el]; omega, by rw [el]; omega, ?_⟩
  refine ⟨fun i E M' => Ext M1 M' ∧ ∃ x, E = [some (.ref a), x], ⟨Ext.refl _, none, rfl⟩, fun _ _ _ _ => trivial, ?_, ?_⟩
  · rintro i E M' d hd ⟨hx, x, rfl⟩
    obtain ⟨hi, rfl⟩ := rng_at hd
    have hi : i < b.deeds.length := by rw [el] at hi; have : i < (b.deeds.length : Int).toNat := hi; omega
    rw [Int.zero_add]
    refine ⟨a, b, i, rfl, bm1.ext hx, ok, hi, fun M2 x2 => ?_⟩
    walk_at "if"
    exact ⟨hx.trans x2, _, rfl⟩
  rintro E M' ⟨hx, x, rfl⟩
  have bm2 := bm1.ext hx
  refine ⟨_, _, _, _, rfl, bm2.at_, bm2.cl _ (by simp), rfl, ?_⟩
  refine ⟨fun hc => ?_, fun _ => ?_⟩
  · have hc : decide ((((b.deeds.map deedD).length : Nat) : Int) = 0) = true := hc
    have := of_decide_eq_true hc
    omega
  exact h _ (x1.trans hx)
end Rk

set_option Elab.async false
set_option linter.all false
set_option autoImplicit false
set_option maxRecDepth 100000
set_option maxHeartbeats 4000000
/-! readings for k88: a book is made, its deeds, its steps -/
namespace Rk
open PySem PySem.Spec PyProof.Rows L2 DH Bd Rd
local macro_rules | `(tactic| walk_at "if") => `(tactic| first | (refine ⟨fun _ => ?_, fun hc => absurd hc (by decide)⟩) | (refine ⟨fun hc => absurd hc (by decide), fun _ => ?_⟩))
def sp_Book (cl : CF) (CB : Addr) : DSp := fun ds M Q _ => ∃ (a q1 q2 : Addr) (b : BK), ds = [.ref a, .int b.w, .int b.r, .ref q1, .ref q2] ∧ ClB cl CB ∧ M a = some (.ins CB []) ∧ M q1 = some (.lst (wds b.words)) ∧ M q2 = some (.lst (b.deeds.map deedD)) ∧ b.Ok ∧
  ∀ M', But a M M' → BkM cl CB M' a b → Q .non M'
theorem r_Book__init__ (cl : CF) (CB : Addr) : ∀ ds M Q E, sp_Book cl CB ds M Q E → b_Book__init__ cl (sp_first_bad_line2 cl CB) (En Q) (startD 9 ds) M := by
  rintro ds M Q E ⟨a, q1, q2, b, rfl, hcl, ha, h1, h2, ok, h⟩
  have n1 : q1 ≠ a := fun z => by subst z; rw [ha] at h1; cases h1
  have n2 : q2 ≠ a := fun z => by subst z; rw [ha] at h2; cases h2
  have d6 := ok.d6
  refine ⟨a, CB, [], rfl, ha, hcl _ (by simp), by decide, ?_⟩
  have b1 : But a M (updM M a (.ins CB [("width", .int b.w)])) := (But.refl a M).set
  have a1 : updM M a (.ins CB [("width", .int b.w)]) a = some (.ins CB [("width", .int b.w)]) := updM_same
  show dSeq _ _ _ _ (updM M a (.ins CB [("width", .int b.w)]))
  generalize updM M a (.ins CB [("width", .int b.w)]) = M1 at b1 a1 ⊢
  refine ⟨a, CB, _, rfl, a1, hcl _ (by simp), (by show 1 < 1000; decide), ?_⟩
  have b2 : But a M (updM M1 a (.ins CB [("width", .int b.w), ("registers", .int b.r)])) := b1.set
  have a2 : updM M1 a (.ins CB [("width", .int b.w), ("registers", .int b.r)]) a = some (.ins CB [("width", .int b.w), ("registers", .int b.r)]) := updM_same
  show dSeq _ _ _ _ (updM M1 a (.ins CB [("width", .int b.w), ("registers", .int b.r)]))
  generalize updM M1 a (.ins CB [("width", .int b.w), ("registers", .int b.r)]) = M2 at b2 a2 ⊢
  refine ⟨_, b2 _ _ n1 h1, a, CB, _, rfl, a2, hcl _ (by simp), (by show 2 < 1000; decide), ?_⟩
  have b3 : But a M (updM M2 a (.ins CB [("width", .int b.w), ("registers", .int b.r), ("words", .tup (wds b.words))])) := b2.set
  have a3 : updM M2 a (.ins CB [("width", .int b.w), ("registers", .int b.r), ("words", .tup (wds b.words))]) a = some (.ins CB [("width", .int b.w), ("registers", .int b.r), ("words", .tup (wds b.words))]) := updM_same
  show dSeq _ _ _ _ (updM M2 a (.ins CB [("width", .int b.w), ("registers", .int b.r), ("words", .tup (wds b.words))]))
  generalize updM M2 a (.ins CB [("width", .int b.w), ("registers", .int b.r), ("words", .tup (wds b.words))]) = M3 at b3 a3 ⊢
  have l3 := b3 _ _ n2 h2
  refine ⟨_, l3, fun p hp => ?_⟩
  refine ⟨fun i acc M' => Ext M3 M' ∧ M' p = some (.lst acc) ∧ acc = (b.deeds.take i).map deedD, ⟨Ext.new hp, updM_same, rfl⟩, fun i acc M' ⟨e, _⟩ => e _ _ l3, ?_, ?_⟩
  · rintro i acc M' d hd ⟨hx, hp2, rfl⟩
    rw [List.getElem?_map] at hd
    obtain ⟨p', hp', rfl⟩ := Option.map_eq_some_iff.mp hd
    refine ⟨rfl, fun _ => ⟨by show 3 ≤ sizeLine; decide, hp2, by rw [List.length_map, List.length_take]; exact tolist (by omega), hx.mut hp, updM_same, ?_⟩, fun hc => absurd hc (by decide)⟩
    rw [take_snoc hp', List.map_append]; rfl
  rintro acc M' ⟨hx, hp2, rfl⟩
  rw [List.length_map, List.take_length] at hp2
  have b3' := b3.trans (.ofExt hx)
  refine ⟨_, hp2, a, CB, _, rfl, hx _ _ a3, hcl _ (by simp), (by show 3 < 1000; decide), ?_⟩
  have b4 : But a M (updM M' a (.ins CB b.fs)) := b3'.set
  have a4 : updM M' a (.ins CB b.fs) a = some (.ins CB b.fs) := updM_same
  show dSeq _ _ _ _ (updM M' a (.ins CB b.fs))
  generalize updM M' a (.ins CB b.fs) = M4 at b4 a4 ⊢
  refine ⟨a, b, rfl, ⟨a4, hcl⟩, ok, fun M5 e5 => ?_⟩
  walk_at "if"
  exact h M5 (b4.trans (.ofExt e5)) ⟨e5 _ _ a4, hcl⟩
/-! ### deed -/
theorem find_hit {α : Type} {p : α → Bool} {l : List α} {i : Nat} {d : α} (h : l[i]? = some d) (hn : (l.take i).find? p = none) (hp : p d = true) : l.find? p = some d := by
  have e : l = l.take i ++ (d :: l.drop (i + 1)) := by
    obtain ⟨hi, rfl⟩ := List.getElem?_eq_some_iff.mp h
    rw [← List.drop_eq_getElem_cons hi, List.take_append_drop]
  rw [e, List.find?_append, hn]
  simp [hp]
theorem find_skip {α : Type} {p : α → Bool} {l : List α} {i : Nat} {d : α} (h : l[i]? = some d) (hn : (l.take i).find? p = none) (hp : p d = false) : (l.take (i + 1)).find? p = none := by
  rw [take_snoc h, List.find?_append, hn]
  simp [hp]
def nmIs (n : Str) (d : Str × Nat × D) : Bool := decide (d.1 = n)
theorem BK.find_eq (b : BK) (n : Str) : b.find n = b.deeds.find? (nmIs n) := rfl
def sp_deed (cl : CF) (CB : Addr) : DSp := fun ds M Q _ => ∃ (a : Addr) (b : BK) (n : Str) (d : Str × Nat × D), ds = [.ref a, .str n] ∧ BkM cl CB M a b ∧ b.find n = some d ∧ Q (deedD d) M
theorem r_Bookdeed (cl : CF) (CB : Addr) : ∀ ds M Q E, sp_deed cl CB ds M Q E → b_Bookdeed cl (En Q) (startD 3 ds) M := by
  rintro ds M Q E ⟨a, b, n, d0, rfl, bm, hf, h⟩
  refine ⟨_, _, _, _, rfl, bm.at_, bm.cl _ (by simp), rfl, ?_⟩
  refine ⟨fun i E M' => M' = M ∧ (b.deeds.take i).find? (nmIs n) = none ∧ ∃ x, E = [some (.ref a), some (.str n), x], ⟨rfl, rfl, none, rfl⟩, fun _ _ _ _ => trivial, ?_, ?_⟩
  · rintro i E M' d hd ⟨rfl, hn, x, rfl⟩
    rw [List.getElem?_map] at hd
    obtain ⟨e, he, rfl⟩ := Option.map_eq_some_iff.mp hd
    refine ⟨_, at0, fun hb => ?_, fun hb => ?_⟩
    · have hb : nmIs n e = true := hb
      have := find_hit he hn hb
      rw [← BK.find_eq, hf] at this
      cases this
      exact h
    · have hb : nmIs n e = false := hb
      exact ⟨rfl, find_skip he hn hb, _, rfl⟩
  · rintro E M' ⟨rfl, hn, x, rfl⟩
    rw [List.length_map, List.take_length, ← BK.find_eq, hf] at hn
    cases hn
/-! ### is_step -/
theorem inD_ints (i : Int) (l : List Nat) : inD (.int i) (wds l) = decide (i ∈ l.map Int.ofNat) := by
  induction l with
  | nil => rfl
  | cons x l ih =>
    show ((x : Int) == i || inD (.int i) (wds l)) = _
    rw [ih, Bool.eq_iff_iff]
    simp only [Bool.or_eq_true, beq_iff_eq, decide_eq_true_eq, List.map_cons, List.mem_cons]
    constructor
    · rintro (h | h)
      · exact .inl h.symm
      · exact .inr h
    · rintro (h | h)
      · exact .inl h.symm
      · exact .inr h
theorem flat_ints (l : List Nat) : (wds l).all flatD = true := by
  rw [List.all_eq_true]
  intro d hd
  obtain ⟨x, _, rfl⟩ := List.mem_map.mp hd
  rfl
def sp_is_step (cl : CF) (CB : Addr) : DSp := fun ds M Q _ => ∃ (a : Addr) (b : BK) (s : ST), ds = [.ref a, stD s] ∧ BkM cl CB M a b ∧ b.Ok ∧ s.src.length ≤ 1000 ∧ RetV M Q (.bl (isStep b s))
theorem r_Bookis_step (cl : CF) (CB : Addr) : ∀ ds M Q E, sp_is_step cl CB ds M Q E → b_Bookis_step cl sp_source_count sp_takes_word (En Q) (startD 8 ds) M := by
  rintro ds M Q E ⟨a, b, s, rfl, bm, ok, hlen, h⟩
  refine ⟨rfl, ?_⟩
  refine ⟨_, _, _, _, rfl, bm.at_, bm.cl _ (by simp), rfl, ?_⟩
  refine ⟨fun i E M' => M' = M ∧ (b.deeds.take i).find? (nmIs s.nm) = none ∧ ∃ x, E = [some (.ref a), some (stD s), some (.str s.nm), some (.tup (s.src.map .int)), some (wdD s.wd), some (.int s.tg), x, none], ⟨rfl, rfl, none, rfl⟩, fun _ _ _ _ => trivial, ?_, ?_⟩
  · rintro i E M' d hd ⟨rfl, hn, x, rfl⟩
    rw [List.getElem?_map] at hd
    obtain ⟨e, he, rfl⟩ := Option.map_eq_some_iff.mp hd
    refine ⟨_, at0, fun hb => ?_, fun hb => ?_⟩
    rotate_left
    · have hb : nmIs s.nm e = false := hb
      exact ⟨rfl, find_skip he hn hb, _, rfl⟩
    have hb : nmIs s.nm e = true := hb
    have hf := find_hit he hn hb
    rw [← BK.find_eq] at hf
    have hi : isStep b s = stepOk b s e.2.2 := by unfold isStep; rw [hf]
    rw [hi] at h
    have fo := ok.fmOk (mem_at he)
    have bad : ∀ M2, Ext M' M2 → stepOk b s e.2.2 = false → Q (.bl false) M2 := fun M2 x2 z => qb (h M2 x2) z.symm
    refine ⟨_, (rfl : atI _ 2 = some e.2.2), e.2.2, rfl, fo, fun M1 x1 => ?_⟩
    refine ⟨fun hc => ?_, fun hc => ?_⟩
    · have hc : (!decide (((s.src.map D.int).length : Int) = (srcN e.2.2 : Nat))) = true := hc
      walk_at "if"
      refine bad M1 x1 ?_
      rw [List.length_map] at hc
      have hc := of_decide_eq_false ((Bool.not_eq_true' _).mp hc)
      have : ¬ s.src.length = srcN e.2.2 := by omega
      unfold stepOk
      rw [decide_eq_false this]; rfl
    have hc : (!decide (((s.src.map D.int).length : Int) = (srcN e.2.2 : Nat))) = false := hc
    rw [List.length_map, Bool.not_eq_false'] at hc
    have hc := of_decide_eq_true hc
    have hsl : s.src.length = srcN e.2.2 := by omega
    refine ⟨fun h0 => ?_, fun h0 => ?_⟩
    rotate_left
    · have h0 : decide ((0 : Int) ≤ s.tg) = false := h0
      walk_at "if"
      refine bad M1 x1 ?_
      unfold stepOk
      rw [h0, Bool.false_and, Bool.and_false]; rfl
    have h0 : decide ((0 : Int) ≤ s.tg) = true := h0
    have bm1 := bm.ext x1
    refine ⟨_, _, _, _, rfl, bm1.at_, bm1.cl _ (by simp), rfl, ?_⟩
    refine ⟨fun hc => ?_, fun hc => ?_⟩
    · have hc : (!decide (s.tg < (b.r : Int))) = true := hc
      refine bad M1 x1 ?_
      unfold stepOk
      rw [(Bool.not_eq_true' _).mp hc, Bool.and_false, Bool.and_false]; rfl
    have hc : (!decide (s.tg < (b.r : Int))) = false := hc
    have htg : decide (s.tg < (b.r : Int)) = true := by rw [Bool.not_eq_false'] at hc; exact hc
    have e1 : stepOk b s e.2.2 = (((hasK e.2.2 == s.wd.isSome) && wdOk b s.wd) && s.src.all (srcOk b)) := by
      unfold stepOk
      rw [decide_eq_true hsl, h0, htg, Bool.true_and, Bool.true_and, Bool.true_and]
    refine ⟨_, (rfl : atI _ 2 = some e.2.2), e.2.2, rfl, fo, fun M2 x2 => ?_⟩
    have x12 := x1.trans x2
    have bm2 := bm.ext x12
    have fin : ∀ (b1 : Bool), stepOk b s e.2.2 = (b1 && s.src.all (srcOk b)) → b1 = true → ∀ y : Option D, (dRet (dL oAllL (dCons (dLc (dIter (dVar 3)) (.nm 7) dYes (dChain oLe oLt (dC (.int 0)) (dVar 7) (dFld cl "registers" (dVar 0))) [7]) (dNil))) : DS) { nx := fun E M' => (En Q).nx E M', rt := Q, bk := fun _ _ => False, ct := fun _ _ => False } [some (.ref a), some (stD s), some (.str s.nm), some (.tup (s.src.map .int)), some (wdD s.wd), some (.int s.tg), some (deedD e), none] M2 := by
      intro b1 eb1 hb1 y p hp
      refine ⟨fun j acc M3 => Ext M2 M3 ∧ M3 p = some (.lst acc) ∧ acc = ((s.src.take j).map (srcOk b)).map D.bl, ⟨Ext.new hp, updM_same, rfl⟩, fun _ _ _ _ => trivial, ?_, ?_⟩
      · rintro j acc M3 d hd ⟨hx3, hp3, rfl⟩
        rw [List.getElem?_map] at hd
        obtain ⟨v, hv, rfl⟩ := Option.map_eq_some_iff.mp hd
        have ln : (((s.src.take j).map (srcOk b)).map D.bl).length < sizeLine := tolist (by rw [List.length_map, List.length_map, List.length_take]; omega)
        have bm3 := bm2.ext hx3
        refine ⟨fun _ => ⟨fun hv0 => ?_, fun hv0 => ?_⟩, fun hc => absurd hc (by decide)⟩
        · have hv0 : decide ((0 : Int) ≤ v) = true := hv0
          refine ⟨_, _, _, _, rfl, bm3.at_, bm3.cl _ (by simp), rfl, ?_⟩
          refine ⟨hp3, ln, hx3.mut hp, updM_same, ?_⟩
          rw [take_snoc hv, List.map_append, List.map_append]
          show _ = _ ++ [D.bl (decide (0 ≤ v) && decide (v < (b.r : Int)))]
          rw [hv0, Bool.true_and]
        · have hv0 : decide ((0 : Int) ≤ v) = false := hv0
          refine ⟨hp3, ln, hx3.mut hp, updM_same, ?_⟩
          rw [take_snoc hv, List.map_append, List.map_append]
          show _ = _ ++ [D.bl (decide (0 ≤ v) && decide (v < (b.r : Int)))]
          rw [hv0, Bool.false_and]
      · rintro acc M3 ⟨hx3, hp3, rfl⟩
        rw [List.length_map, List.take_length] at hp3
        refine ⟨p, _, rfl, hp3, ?_⟩
        refine qb (h M3 (x12.trans hx3)) ?_
        rw [eb1, hb1, Bool.true_and, List.all_map]; rfl
    cases hw : s.wd with
    | none =>
      rw [hw] at e1 fin
      refine ⟨fun hc => ?_, fun hc => ?_⟩
      · have hc : (!decide (hasK e.2.2 = false)) = true := hc
        walk_at "if"
        refine bad M2 x12 ?_
        rw [e1]
        have : hasK e.2.2 = true := by simpa using hc
        rw [this]; rfl
      · have hc : (!decide (hasK e.2.2 = false)) = false := hc
        have hk : hasK e.2.2 = false := by simpa using hc
        walk_at "if"
        walk_at "if"
        exact fin _ e1 (by rw [hk]; rfl) none
    | some wv =>
      rw [hw] at e1 fin
      refine ⟨fun hc => ?_, fun hc => ?_⟩
      · have hc : (!decide (hasK e.2.2 = true)) = true := hc
        walk_at "if"
        refine bad M2 x12 ?_
        rw [e1]
        have : hasK e.2.2 = false := by simpa using hc
        rw [this]; rfl
      · have hc : (!decide (hasK e.2.2 = true)) = false := hc
        have hk : hasK e.2.2 = true := by simpa using hc
        refine ⟨fun _ => ?_, fun hc => absurd hc (by simp [nonD, wdD])⟩
        refine ⟨_, _, _, _, rfl, bm2.at_, bm2.cl _ (by simp), rfl, ?_⟩
        refine ⟨rfl, flat_ints _, ?_⟩
        refine ⟨fun hc => ?_, fun hc => ?_⟩
        · have hc : (!inD (.int wv) (wds b.words)) = true := hc
          rw [inD_ints] at hc
          refine bad M2 x12 ?_
          rw [e1, hk]
          show (true && decide (wv ∈ b.words.map Int.ofNat) && _) = false
          rw [(Bool.not_eq_true' _).mp hc]; rfl
        · have hc : (!inD (.int wv) (wds b.words)) = false := hc
          rw [inD_ints] at hc
          refine fin _ e1 ?_ none
          rw [hk]
          show (true && decide (wv ∈ b.words.map Int.ofNat)) = true
          rw [Bool.not_eq_false'] at hc
          rw [hc]; rfl
  · rintro E M' ⟨rfl, hn, x, rfl⟩
    rw [List.length_map, List.take_length, ← BK.find_eq] at hn
    refine qb (h _ (Ext.refl _)) ?_
    unfold isStep
    rw [hn]
end Rk

set_option Elab.async false
set_option linter.all false
set_option autoImplicit false
set_option maxRecDepth 100000
set_option maxHeartbeats 4000000
/-! readings for k88: all steps of a book -/
namespace Rk
open PySem PySem.Spec PyProof.Rows L2 DH Bd Rd
local macro_rules | `(tactic| walk_at "if") => `(tactic| first | (refine ⟨fun _ => ?_, fun hc => absurd hc (by decide)⟩) | (refine ⟨fun hc => absurd hc (by decide), fun _ => ?_⟩))
def stepsD (l : List ST) : List D := l.map stD
theorem fm_le {α β : Type} {f : α → List β} {n : Nat} : ∀ {l : List α}, (∀ x ∈ l, (f x).length ≤ n) → (l.flatMap f).length ≤ l.length * n
  | [], _ => by simp
  | a :: l, h => by
    rw [List.flatMap_cons, List.length_append, List.length_cons, Nat.succ_mul]
    have h1 := h a (by simp)
    have h2 := fm_le fun x hx => h x (List.mem_cons_of_mem _ hx)
    omega
theorem Ext.but {M M1 M2 : Mm} {p : Addr} (e : Ext M M1) (b : But p M1 M2) (h : M p = none) : Ext M M2 := fun a o q => b _ _ (fun z => by subst z; rw [h] at q; cases q) (e _ _ q)
theorem take_flat {α β : Type} (f : α → List β) {l : List α} {i : Nat} {x : α} (h : l[i]? = some x) : (l.take (i + 1)).flatMap f = (l.take i).flatMap f ++ f x := by
  rw [take_snoc h, List.flatMap_append]; simp
def wsD (b : BK) (f : D) : List D := (wordsOf b f).map wdD
theorem wsD_yes {b : BK} {f : D} (h : hasK f = true) : wsD b f = wds b.words := by unfold wsD wordsOf; rw [if_pos h, List.map_map]; rfl
theorem wsD_no {b : BK} {f : D} (h : hasK f = false) : wsD b f = [.non] := by unfold wsD wordsOf; rw [h]; rfl
theorem wordsOf_len {b : BK} (ok : b.Ok) (f : D) : (wordsOf b f).length ≤ 16 := by
  unfold wordsOf
  have := ok.wl
  split
  · rw [List.length_map]; exact this
  · simp
abbrev tgs (b : BK) (n : Str) (row : List Nat) (wd : Option Int) : List ST := (List.range b.r).map fun t : Nat => ⟨n, row.map Int.ofNat, wd, (t : Int)⟩
theorem deedSteps_len {b : BK} (ok : b.Ok) (d : Str × Nat × D) : (deedSteps b d).length ≤ 6400 := by
  unfold deedSteps
  have r4 := ok.r4
  have h1 : ∀ row ∈ srcRows b.r (srcN d.2.2), ((wordsOf b d.2.2).flatMap fun wd => tgs b d.1 row wd).length ≤ 64 := fun row _ => by
    have := fm_le (l := wordsOf b d.2.2) (f := fun wd => tgs b d.1 row wd) (n := 4) fun wd _ => by rw [List.length_map, List.length_range]; exact r4
    have h2 := wordsOf_len ok d.2.2
    have : (wordsOf b d.2.2).length * 4 ≤ 16 * 4 := Nat.mul_le_mul_right _ h2
    omega
  have h2 := fm_le h1
  have h3 := srcRows_len b.r r4 (srcN d.2.2) (by have := srcN_le d.2.2; omega)
  have : (srcRows b.r (srcN d.2.2)).length * 64 ≤ 100 * 64 := Nat.mul_le_mul_right _ h3
  exact Nat.le_trans h2 this
theorem wds_row {n : Str} {row : List Nat} {wd : Option Int} {t : Nat} : stD ⟨n, row.map Int.ofNat, wd, (t : Int)⟩ = .tup [.str n, .tup (wds row), wdD wd, .int t] := by
  unfold stD
  rw [List.map_map]; rfl
end Rk

set_option Elab.async false
set_option linter.all false
set_option autoImplicit false
set_option maxRecDepth 100000
set_option maxHeartbeats 4000000
/-! readings for k88: the number of codes -/
namespace Rk
open PySem PySem.Spec PyProof.Rows L2 DH Bd Rd
local macro_rules | `(tactic| walk_at "if") => `(tactic| first | (refine ⟨fun _ => ?_, fun hc => absurd hc (by decide)⟩) | (refine ⟨fun hc => absurd hc (by decide), fun _ => ?_⟩))
theorem wds_ints (l : List Nat) : wds l = (l.map Int.ofNat).map D.int := by rw [List.map_map]; rfl
theorem wds_len (l : List Nat) : (wds l).length = l.length := List.length_map ..
theorem wds_snoc (l : List Nat) (x : Nat) : wds (l ++ [x]) = wds l ++ [.int x] := by unfold wds; rw [List.map_append]; rfl
theorem getD_at {l : List Nat} {i : Nat} (h : i < l.length) : l[i]? = some (l.getD i 0) := by rw [List.getD_eq_getElem?_getD, List.getElem?_eq_getElem h]; rfl
/-! ### the law's way to count -/
end Rk

set_option Elab.async false
set_option linter.all false
set_option autoImplicit false
set_option maxRecDepth 100000
set_option maxHeartbeats 4000000
/-! readings for k88: the law's deeds, steps, counts -/
namespace Rk
open PySem PySem.Spec PyProof.Rows L2 DH Bd Rd
local macro_rules | `(tactic| walk_at "if") => `(tactic| first | (refine ⟨fun _ => ?_, fun hc => absurd hc (by decide)⟩) | (refine ⟨fun hc => absurd hc (by decide), fun _ => ?_⟩))
/-- the law's data of a book -/
structure DaB (M : Mm) (a aw ad : Addr) (b : BK) : Prop where
  h0 : M a = some (.lst [.int b.w, .int b.r, .ref aw, .ref ad])
  h1 : M aw = some (.lst (wds b.words))
  h2 : M ad = some (.lst (b.deeds.map deedD))
theorem DaB.ext {M M' : Mm} {a aw ad : Addr} {b : BK} (h : DaB M a aw ad b) (e : Ext M M') : DaB M' a aw ad b := ⟨e _ _ h.h0, e _ _ h.h1, e _ _ h.h2⟩
theorem DaB.but {M M' : Mm} {a aw ad p : Addr} {b : BK} (h : DaB M a aw ad b) (e : But p M M') (n0 : a ≠ p) (n1 : aw ≠ p) (n2 : ad ≠ p) : DaB M' a aw ad b := ⟨e _ _ n0 h.h0, e _ _ n1 h.h1, e _ _ n2 h.h2⟩
def sp_ldeed : DSp := fun ds M Q _ => ∃ (a aw ad : Addr) (b : BK) (n : Str) (d : Str × Nat × D), ds = [.ref a, .str n] ∧ DaB M a aw ad b ∧ b.find n = some d ∧ Q (deedD d) M
theorem r__law_deed : ∀ ds M Q E, sp_ldeed ds M Q E → b__law_deed (En Q) (startD 3 ds) M := by
  rintro ds M Q E ⟨a, aw, ad, b, n, d0, rfl, da, hf, h⟩
  refine .inl ⟨_, _, .ref ad, da.h0, rfl, rfl, _, da.h2, ?_⟩
  refine ⟨fun i E M' => M' = M ∧ (b.deeds.take i).find? (nmIs n) = none ∧ ∃ x, E = [some (.ref a), some (.str n), x], ⟨rfl, rfl, none, rfl⟩, fun i E M' ⟨e, _⟩ => by rw [e]; exact da.h2, ?_, ?_⟩
  · rintro i E M' d hd ⟨rfl, hn, x, rfl⟩
    rw [List.getElem?_map] at hd
    obtain ⟨e, he, rfl⟩ := Option.map_eq_some_iff.mp hd
    refine ⟨_, at0, fun hb => ?_, fun hb => ?_⟩
    · have hb : nmIs n e = true := hb
      have := find_hit he hn hb
      rw [← BK.find_eq, hf] at this
      cases this
      exact h
    · have hb : nmIs n e = false := hb
      exact ⟨rfl, find_skip he hn hb, _, rfl⟩
  · rintro E M' ⟨rfl, hn, x, rfl⟩
    rw [List.length_map, List.take_length, ← BK.find_eq, hf] at hn
    cases hn
/-! ### steps -/
theorem cdiv {i : Int} {r : Nat} (h1 : 1 ≤ r) (h4 : r ≤ 1000) : CDiv i (r : Int) := ⟨by omega, by omega⟩
end Rk

set_option Elab.async false
set_option linter.all false
set_option autoImplicit false
set_option maxRecDepth 100000
set_option maxHeartbeats 4000000
/-! readings for k88: one step -/
namespace Rk
open PySem PySem.Spec PyProof.Rows L2 DH Bd Rd
local macro_rules | `(tactic| walk_at "if") => `(tactic| first | (refine ⟨fun _ => ?_, fun hc => absurd hc (by decide)⟩) | (refine ⟨fun hc => absurd hc (by decide), fun _ => ?_⟩))
mutual
theorem wf_lnames {w : Nat} {nms : List Str} : ∀ d : D, wfD w nms d = true → ∀ s ∈ lnamesD d, s ∈ nms
  | .int i, _, s, h => by simp [lnamesD] at h
  | .str z, hd, s, h => by
    simp only [lnamesD, List.mem_singleton] at h
    subst h
    simp only [wfD] at hd
    exact of_decide_eq_true hd
  | .tup ds, hd, s, h => by
    obtain ⟨o, t, rfl, hl, ht, _⟩ := op_inv hd
    have h2 : wfDs w nms t = true := by
      simp only [wfD, opOf_of] at hd
      exact (Bool.and_eq_true_iff.mp hd).2
    simp only [lnamesD] at h
    exact wf_lnamess t h2 s h
  | .non, hd, _, _ => by simp [wfD] at hd
  | .bl _, hd, _, _ => by simp [wfD] at hd
  | .ref _, hd, _, _ => by simp [wfD] at hd
  | .ty _, hd, _, _ => by simp [wfD] at hd
  | .kd _, hd, _, _ => by simp [wfD] at hd
  | .fl _, hd, _, _ => by simp [wfD] at hd
theorem wf_lnamess {w : Nat} {nms : List Str} : ∀ t : List D, wfDs w nms t = true → ∀ s ∈ lnamesDs t, s ∈ nms
  | [], _, s, h => by simp [lnamesDs] at h
  | d :: t, hd, s, h => by
    simp only [wfDs, Bool.and_eq_true] at hd
    simp only [lnamesDs, List.mem_append] at h
    rcases h with h | h
    · exact wf_lnames d hd.1 s h
    · exact wf_lnamess t hd.2 s h
end
/-! ### what a step computes -/
def rhoOf (s : ST) (st : List Nat) (n : Str) : Nat := if n = "k" then (s.wd.getD 0).toNat else if n = "a" then st.getD (s.src.getD 0 0).toNat 0 else if n = "b" then st.getD (s.src.getD 1 0).toNat 0 else 0
def stepWord (b : BK) (s : ST) (st : List Nat) : Nat := match b.find s.nm with
  | some d => evD b.w (rhoOf s st) d.2.2
  | none => 0
def stepAfter (b : BK) (s : ST) (st : List Nat) : List Nat := st.set s.tg.toNat (stepWord b s st)
structure StOk (b : BK) (st : List Nat) : Prop where
  len : st.length = b.r
  lt : ∀ x ∈ st, x < 2 ^ b.w
/-- what a step of the book is -/
structure StepF (b : BK) (s : ST) (d : Str × Nat × D) : Prop where
  find : b.find s.nm = some d
  mem : d ∈ b.deeds
  sl : s.src.length = srcN d.2.2
  t0 : 0 ≤ s.tg
  tr : s.tg < b.r
  hk : hasK d.2.2 = s.wd.isSome
  wd : ∀ v, s.wd = some v → v ∈ b.words.map Int.ofNat
  src : ∀ x ∈ s.src, 0 ≤ x ∧ x < b.r
theorem step_inv {b : BK} {s : ST} (h : isStep b s = true) : ∃ d, StepF b s d := by
  unfold isStep at h
  cases hf : b.find s.nm with
  | none => rw [hf] at h; cases h
  | some d =>
    rw [hf] at h
    have h : stepOk b s d.2.2 = true := h
    unfold stepOk at h
    simp only [Bool.and_eq_true, decide_eq_true_eq, List.all_eq_true, beq_iff_eq] at h
    obtain ⟨⟨⟨h1, h2, h3⟩, h4, h5⟩, h6⟩ := h
    refine ⟨d, hf, List.mem_of_find?_eq_some hf, h1, h2, h3, h4, fun v hv => ?_, fun x hx => ?_⟩
    · rw [hv] at h5; exact of_decide_eq_true h5
    · have := h6 x hx
      unfold srcOk at this
      simpa using this
theorem stepWord_lt {b : BK} (ok : b.Ok) {s : ST} {st : List Nat} (so : StOk b st) (h : isStep b s = true) : stepWord b s st < 2 ^ b.w := by
  obtain ⟨d, f⟩ := step_inv h
  unfold stepWord
  rw [f.find]
  show evD b.w (rhoOf s st) d.2.2 < 2 ^ b.w
  have hp : 0 < 2 ^ b.w := Nat.two_pow_pos _
  have gd : ∀ i : Nat, st.getD i 0 < 2 ^ b.w := fun i => by
    rw [List.getD_eq_getElem?_getD]
    cases e : st[i]? with
    | none => exact hp
    | some x => exact so.lt x (mem_at e)
  refine ev_lt ok.w1 (nms := abk) (fun n _ => ?_) _ (ok.fm d f.mem).1
  unfold rhoOf
  split
  · cases hw : s.wd with
    | none => exact hp
    | some v =>
      obtain ⟨x, hx, rfl⟩ := List.mem_map.mp (f.wd v hw)
      exact ok.wlt x hx
  · split
    · exact gd _
    · split
      · exact gd _
      · exact hp
theorem after_ok {b : BK} (ok : b.Ok) {s : ST} {st : List Nat} (so : StOk b st) (h : isStep b s = true) : StOk b (stepAfter b s st) := by
  refine ⟨by unfold stepAfter; rw [List.length_set]; exact so.len, fun x hx => ?_⟩
  rcases List.mem_or_eq_of_mem_set hx with hx | rfl
  · exact so.lt x hx
  · exact stepWord_lt ok so h
/-! ### the dict of a step -/
def ltr (i : Nat) : Str := if i = 0 then "a" else "b"
/-- the dict after i letters -/
structure EnvS (M : Mm) (e : Addr) (s : ST) (st : List Nat) (i : Nat) : Prop where
  ex : ∃ kvs, M e = some (.dk kvs) ∧ kvs.length ≤ 1 + i ∧ valD kvs (.inr "k") = some (wdD s.wd) ∧ ∀ j < i, valD kvs (.inr (ltr j)) = some (.int (st.getD (s.src.getD j 0).toNat 0 : Nat))
theorem ltr_ne (i j : Nat) (hi : i < 2) (hj : j < 2) (h : i ≠ j) : ltr i ≠ ltr j := by
  match i, j with
  | 0, 1 => decide
  | 1, 0 => decide
  | 0, 0 => exact absurd rfl h
  | 1, 1 => exact absurd rfl h
theorem ltr_k (i : Nat) : ltr i ≠ ("k" : Str) := by unfold ltr; split <;> decide
theorem EnvS.put {M M' : Mm} {e : Addr} {s : ST} {st : List Nat} {i : Nat} (h : EnvS M e s st i) (hi : i < 2) {kvs : List (Key × D)} (hm : M e = some (.dk kvs)) (hm2 : M' e = some (.dk (putD kvs (.inr (ltr i)) (.int (st.getD (s.src.getD i 0).toNat 0 : Nat))))) : EnvS M' e s st (i + 1) := by
  obtain ⟨kvs', h1, h2, h3, h4⟩ := h.ex
  rw [hm] at h1
  cases h1
  refine ⟨_, hm2, by have := putD_len kvs (.inr (ltr i)) (.int (st.getD (s.src.getD i 0).toNat 0 : Nat)); omega, ?_, fun j hj => ?_⟩
  · rw [putD_val, if_neg (fun z => ltr_k i (Sum.inr.inj z).symm)]; exact h3
  · rw [putD_val]
    by_cases hji : j = i
    · subst hji; rw [if_pos rfl]
    · rw [if_neg (fun z => ltr_ne j i (by omega) hi hji (Sum.inr.inj z))]
      exact h4 j (by omega)
theorem EnvS.env {M : Mm} {e : Addr} {b : BK} {s : ST} {st : List Nat} {d : Str × Nat × D} (ok : b.Ok) (so : StOk b st) (f : StepF b s d) (h : EnvS M e s st s.src.length) : EnvM M e b.w (rhoOf s st) (lnamesD d.2.2) := by
  obtain ⟨kvs, h1, _, h3, h4⟩ := h.ex
  refine ⟨kvs, h1, fun n hn => ?_⟩
  have hp : 0 < 2 ^ b.w := Nat.two_pow_pos _
  have gd : ∀ i : Nat, st.getD i 0 < 2 ^ b.w := fun i => by
    rw [List.getD_eq_getElem?_getD]
    cases e : st[i]? with
    | none => exact hp
    | some x => exact so.lt x (mem_at e)
  have hab := wf_lnames _ (ok.fm d f.mem).1 n hn
  have hsl := f.sl
  unfold srcN at hsl
  unfold abk at hab
  simp only [List.mem_cons, List.not_mem_nil, or_false] at hab
  rcases hab with rfl | rfl | rfl
  · have ha : hasA d.2.2 = true := decide_eq_true ((mem_lnames _ _).mpr hn)
    rw [ha] at hsl
    have := h4 0 (by simp at hsl; omega)
    exact ⟨this, gd _⟩
  · have hb : hasB d.2.2 = true := decide_eq_true ((mem_lnames _ _).mpr hn)
    have ha := ok.ba d f.mem hb
    rw [ha, hb] at hsl
    have := h4 1 (by simp at hsl; omega)
    exact ⟨this, gd _⟩
  · have hk : hasK d.2.2 = true := decide_eq_true ((mem_lnames _ _).mpr hn)
    rw [f.hk] at hk
    cases hw : s.wd with
    | none => rw [hw] at hk; cases hk
    | some v =>
      obtain ⟨x, hx, rfl⟩ := List.mem_map.mp (f.wd v hw)
      rw [hw] at h3
      have er : rhoOf s st "k" = x := by unfold rhoOf; rw [if_pos rfl, hw]; rfl
      rw [er]
      exact ⟨h3, ok.wlt x hx⟩
theorem wf_self {b : BK} (ok : b.Ok) {d : Str × Nat × D} (h : d ∈ b.deeds) : wfD b.w (lnamesD d.2.2) d.2.2 = true := wf_own _ (ok.fm d h).1 fun _ hs => hs
/-! ### the package's word of a step -/
theorem src_at {s : ST} {i : Nat} {x : Int} (h : s.src[i]? = some x) : s.src.getD i 0 = x := by rw [List.getD_eq_getElem?_getD, h]; rfl
theorem st_at {b : BK} {st : List Nat} (so : StOk b st) {x : Int} (h : 0 ≤ x ∧ x < b.r) : atI (wds st) x = some (.int (st.getD x.toNat 0 : Nat)) := by
  obtain ⟨n, rfl⟩ := Int.eq_ofNat_of_zero_le h.1
  have hn : n < st.length := by rw [so.len]; omega
  exact atI_nat (wds_at (getD_at hn))
/-! ### one step -/
theorem cut_set {st : List Nat} {t : Int} {v : Nat} (h0 : 0 ≤ t) (ht : t < st.length) : cutL D (wds st) none (some t) ++ [.int (v : Nat)] ++ cutL D (wds st) (some (t + 1)) none = wds (st.set t.toNat v) := by
  obtain ⟨n, rfl⟩ := Int.eq_ofNat_of_zero_le h0
  have hn : n < st.length := by omega
  have hw := wds_len st
  have c1 : cutL D (wds st) none (some ((n : Nat) : Int)) = (wds st).take n := cutTo D _ n (by rw [hw]; omega)
  have c2 : cutL D (wds st) (some ((n : Nat) + 1 : Int)) none = (wds st).drop (n + 1) := by
    unfold cutL
    have e1 : HT.sIx (wds st).length 0 (some ((n : Nat) + 1 : Int)) = n + 1 := by
      show (if ((n : Nat) + 1 : Int) < 0 then (((n : Nat) + 1 : Int) + ((wds st).length : Int)).toNat else min ((n : Nat) + 1 : Int).toNat (wds st).length) = n + 1
      rw [if_neg (by omega), hw]; omega
    have e2 : HT.sIx (wds st).length (wds st).length none = (wds st).length := rfl
    rw [e1, e2]
    exact List.take_of_length_le (by rw [List.length_drop]; exact Nat.le_refl _)
  rw [c1, c2, show ((n : Nat) : Int).toNat = n by omega]
  unfold wds
  rw [List.set_eq_take_append_cons_drop, if_pos hn, List.map_append, List.map_cons, List.map_take, List.map_drop, List.append_assoc]
  rfl
theorem cut_len (st : List Nat) (lo hi : Option Int) : (cutL D (wds st) lo hi).length ≤ st.length := by
  unfold cutL
  rw [List.length_take, List.length_drop, wds_len]; omega
/-! ### the law's step -/
def sp_lafter : DSp := fun ds M Q _ => ∃ (a aw ad : Addr) (b : BK) (s : ST) (st : List Nat), ds = [.ref a, stD s, .tup (wds st)] ∧ DaB M a aw ad b ∧ b.Ok ∧ StOk b st ∧ isStep b s = true ∧ RetV M Q (.tup (wds (stepAfter b s st)))
theorem r__law_after : ∀ ds M Q E, sp_lafter ds M Q E → b__law_after (sp_lvalue 8) sp_ldeed (En Q) (startD 6 ds) M := by
  rintro ds M Q E ⟨a, aw, ad, b, s, st, rfl, da, ok, so, hs, h⟩
  obtain ⟨d, f⟩ := step_inv hs
  have hsl := f.sl
  have hn2 := srcN_le d.2.2
  have r4 := ok.r4
  have sl := so.len
  refine fun e he => ⟨_, (rfl : atI _ 2 = some (wdD s.wd)), updM_same, [(.inr "k", wdD s.wd)], rfl, by show 1 ≤ 15; decide, ?_⟩
  have xe : Ext M (updM (updM M e (.dk [])) e (.dk (mergeD [] [(.inr "k", wdD s.wd)]))) := (Ext.new he).mut he
  have em : EnvS (updM (updM M e (.dk [])) e (.dk (mergeD [] [(.inr "k", wdD s.wd)]))) e s st 0 := ⟨_, updM_same, by show 1 ≤ 1; decide, rfl, fun j hj => absurd hj (by omega)⟩
  generalize updM (updM M e (.dk [])) e (.dk (mergeD [] [(.inr "k", wdD s.wd)])) = M1 at xe em ⊢
  refine ⟨_, (rfl : atI _ 1 = some (.tup (s.src.map .int))), ?_⟩
  have hln : ((s.src.map D.int).length : Int) = (s.src.length : Int) := by rw [List.length_map]
  refine ⟨by rw [hln]; omega, by rw [hln]; omega, ?_⟩
  refine ⟨fun i E M' => Ext M M' ∧ EnvS M' e s st i ∧ ∃ x4 : Option D, E = [some (.ref a), some (stD s), some (.tup (wds st)), some (.ref e), x4, none], ⟨xe, em, none, rfl⟩, fun _ _ _ _ => trivial, ?_, ?_⟩
  · rintro i E M' dd hd ⟨hx, em, x4, rfl⟩
    obtain ⟨hi, rfl⟩ := rng_at hd
    have hi : i < s.src.length := by rw [hln] at hi; have : i < (s.src.length : Int).toNat := hi; omega
    rw [Int.zero_add]
    have hxs := getE hi
    have hx0 := f.src _ (List.getElem_mem hi)
    have hat : (s.src.map D.int)[i]? = some (.int s.src[i]) := by rw [List.getElem?_map, hxs]; rfl
    refine ⟨.tup (s.src.map .int), rfl, .int s.src[i], atI_nat hat, _, st_at so hx0, ?_⟩
    have hi2 : i < 2 := by omega
    obtain ⟨kvs, k1, k2, k3, k4⟩ := em.ex
    refine ⟨by decide, (ltr i).cps.toList.getD 0 0, ?_, .inr ⟨kvs, .inr (ltr i), k1, ?_, tolist (by omega), hx.mut he, ?_, _, rfl⟩⟩
    · match i, hi2 with
      | 0, _ => rfl
      | 1, _ => rfl
    · match i, hi2 with
      | 0, _ => rfl
      | 1, _ => rfl
    · refine em.put hi2 k1 ?_
      rw [updM_same, src_at hxs]
  · rintro E M' ⟨hx, em, x4, rfl⟩
    rw [rng_len, hln, show ((s.src.length : Nat) : Int).toNat = s.src.length by omega] at em
    have da2 := da.ext hx
    refine ⟨_, at0, a, aw, ad, b, s.nm, d, rfl, da2, f.find, _, (rfl : atI _ 2 = some d.2.2), ?_⟩
    refine .inl ⟨_, _, .int b.w, da2.h0, rfl, at0, ?_⟩
    have fo := ok.fm d f.mem
    refine ⟨d.2.2, b.w, e, rhoOf s st, lnamesD d.2.2, rfl, ok.w1, ok.w4, wf_self ok f.mem, by omega, em.env ok so f, fun M2 x2 => ?_⟩
    have l1 := cut_len st none (some s.tg)
    have l2 := cut_len st (some (s.tg + 1)) none
    refine ⟨_, (rfl : atI _ 3 = some (.int s.tg)), ?_⟩
    refine ⟨by show 1 ≤ sizeLine; decide, Nat.le_of_lt (tolist (by show (cutL D (wds st) none (some s.tg)).length + 1 ≤ _; omega)), ?_⟩
    refine ⟨_, (rfl : atI _ 3 = some (.int s.tg)), ?_⟩
    refine ⟨Nat.le_of_lt (tolist (by rw [List.length_append]; show (cutL D (wds st) none (some s.tg)).length + 1 + (cutL D (wds st) (some (s.tg + 1)) none).length ≤ _; omega)), ?_⟩
    have := h M2 (hx.trans x2)
    unfold stepAfter at this
    rw [← cut_set f.t0 (by have := f.tr; omega)] at this
    unfold stepWord at this
    rw [f.find] at this
    exact this
end Rk

set_option Elab.async false
set_option linter.all false
set_option autoImplicit false
set_option maxRecDepth 100000
set_option maxHeartbeats 4000000
/-! readings for k88: codes are checked, run, counted -/
namespace Rk
open PySem PySem.Spec PyProof.Rows L2 DH Bd Rd
local macro_rules | `(tactic| walk_at "if") => `(tactic| first | (refine ⟨fun _ => ?_, fun hc => absurd hc (by decide)⟩) | (refine ⟨fun hc => absurd hc (by decide), fun _ => ?_⟩))
def firstBadF (b : BK) : Nat → List ST → Option Nat
  | _, [] => none
  | i, s :: r => if 200 ≤ i ∨ isStep b s = false then some i else firstBadF b (i + 1) r
def firstBad (b : BK) (code : List ST) : Option Nat := firstBadF b 0 code
theorem fb_hit {b : BK} {s : ST} : ∀ {code : List ST} {i k : Nat}, code[i]? = some s → (200 ≤ k + i ∨ isStep b s = false) → firstBadF b k (code.take i) = none → firstBadF b k code = some (k + i)
  | [], i, k, h, _, _ => by simp at h
  | x :: r, 0, k, h, hb, _ => by
    simp at h
    subst h
    simp only [firstBadF]
    have hb : 200 ≤ k ∨ isStep b x = false := hb
    rw [if_pos hb]; rfl
  | x :: r, i + 1, k, h, hb, hn => by
    simp only [List.take_succ_cons, firstBadF] at hn ⊢
    by_cases hx : 200 ≤ k ∨ isStep b x = false
    · rw [if_pos hx] at hn; cases hn
    · rw [if_neg hx] at hn ⊢
      have := fb_hit (k := k + 1) (i := i) (by simpa using h) (by rw [show k + 1 + i = k + (i + 1) by omega]; exact hb) hn
      rw [this]; congr 1; omega
theorem fb_skip {b : BK} {s : ST} : ∀ {code : List ST} {i k : Nat}, code[i]? = some s → ¬ (200 ≤ k + i ∨ isStep b s = false) → firstBadF b k (code.take i) = none → firstBadF b k (code.take (i + 1)) = none
  | [], i, k, h, _, _ => by simp at h
  | x :: r, 0, k, h, hb, _ => by
    simp at h
    subst h
    simp only [List.take_succ_cons, List.take_zero, firstBadF]
    have hb : ¬ (200 ≤ k ∨ isStep b x = false) := hb
    rw [if_neg hb]
  | x :: r, i + 1, k, h, hb, hn => by
    rw [List.take_succ_cons] at hn ⊢
    simp only [firstBadF] at hn ⊢
    by_cases hx : 200 ≤ k ∨ isStep b x = false
    · rw [if_pos hx] at hn; cases hn
    · rw [if_neg hx] at hn ⊢
      exact fb_skip (k := k + 1) (i := i) (by simpa using h) (by rw [show k + 1 + i = k + (i + 1) by omega]; exact hb) hn
theorem fb_none {b : BK} : ∀ {code : List ST} {k : Nat}, firstBadF b k code = none → ∀ s ∈ code, isStep b s = true
  | [], _, _, s, h => by cases h
  | x :: r, k, hn, s, h => by
    simp only [firstBadF] at hn
    by_cases hx : 200 ≤ k ∨ isStep b x = false
    · rw [if_pos hx] at hn; cases hn
    · rw [if_neg hx] at hn
      rcases List.mem_cons.mp h with rfl | h
      · cases q : isStep b s with
        | true => rfl
        | false => exact absurd (.inr q) hx
      · exact fb_none hn s h
theorem fb_len {b : BK} : ∀ {code : List ST} {k : Nat}, firstBadF b k code = none → code ≠ [] → k + code.length ≤ 200
  | [], _, _, h => absurd rfl h
  | [x], k, hn, _ => by
    simp only [firstBadF] at hn
    by_cases hx : 200 ≤ k ∨ isStep b x = false
    · rw [if_pos hx] at hn; cases hn
    · have : ¬ 200 ≤ k := fun z => hx (.inl z)
      show k + 1 ≤ 200; omega
  | x :: y :: r, k, hn, _ => by
    simp only [firstBadF] at hn
    by_cases hx : 200 ≤ k ∨ isStep b x = false
    · rw [if_pos hx] at hn; cases hn
    · rw [if_neg hx] at hn
      have := fb_len (k := k + 1) (code := y :: r) hn (by simp)
      simp only [List.length_cons] at this ⊢; omega
theorem stepsD_at {l : List ST} {i : Nat} {s : ST} (h : l[i]? = some s) : (stepsD l)[i]? = some (stD s) := by unfold stepsD; rw [List.getElem?_map, h]; rfl
theorem stepsD_get {l : List ST} {i : Nat} {d : D} (h : (stepsD l)[i]? = some d) : ∃ s, l[i]? = some s ∧ d = stD s := by
  unfold stepsD at h
  rw [List.getElem?_map] at h
  obtain ⟨s, h1, h2⟩ := Option.map_eq_some_iff.mp h
  exact ⟨s, h1, h2.symm⟩
theorem stepsD_len (l : List ST) : (stepsD l).length = l.length := List.length_map ..
/-- a code: its items are like steps -/
structure CodeOk (code : List ST) : Prop where
  len : code.length ≤ 1000
  src : ∀ s ∈ code, s.src.length ≤ 1000
/-! ### check_code -/
def bodyC (CB : Addr) (s1 : DSp) (R : DS) : DS := dIf (dtOr (dtB (dOp oGe (dVar 2) (dC (.int 200)))) (dtNot (dtE (dMeth CB "is_step" s1 (dVar 0) (dCons (dOp oIx (dVar 1) (dVar 2)) (dNil)))))) R (dNext)
theorem r_check_gen {cl : CF} {CB a : Addr} {b : BK} {cd : D} {code : List ST} {M : Mm} (R : DS) (D0 : DEnds) (bm : BkM cl CB M a b) (ok : b.Ok) (hs : SeqM M cd (stepsD code)) (co : CodeOk code)
    (hR : ∀ i, firstBad b code = some i → i ≤ 1000 → ∀ M2 D', Ext M M2 → D'.xc = D0.xc → R D' [some (.ref a), some cd, some (.int (i : Nat))] M2) (h1 : firstBad b code = none → ∀ M' x, Ext M M' → D0.nx [some (.ref a), some cd, x] M') :
    (dFor (dRng1 (dCons (dL oLen (dCons (dVar 1) (dNil))) (dNil))) (.nm 2) (bodyC CB (sp_is_step cl CB) R) : DS) D0 [some (.ref a), some cd, none] M := by
  have cl1 := co.len
  have body : ∀ i M', i < code.length → Ext M M' → firstBadF b 0 (code.take i) = none → SeqM M' cd (stepsD code) → ∀ D', D'.xc = D0.xc → (∀ E M', Ext M M' ∧ firstBadF b 0 (code.take (i + 1)) = none ∧ (∃ x : Option D, E = [some (.ref a), some cd, x]) → D'.nx E M') →
      bodyC CB (sp_is_step cl CB) R D' [some (.ref a), some cd, some (.int (i : Nat))] M' := by
    intro i M' hi hx hn hsm D' hxc hnx
    have hat := getE hi
    have hsrc := co.src _ (List.getElem_mem hi)
    generalize code[i] = s at hat hsrc
    have bad : ∀ M2, Ext M M2 → (200 ≤ i ∨ isStep b s = false) → R D' [some (.ref a), some cd, some (.int (i : Nat))] M2 := fun M2 x2 hb => by
      have := fb_hit (k := 0) hat (by rw [Nat.zero_add]; exact hb) hn
      rw [Nat.zero_add] at this
      exact hR i this (by omega) M2 D' x2 hxc
    refine ⟨fun hc => ?_, fun hc => ?_⟩
    · have hc : decide ((200 : Int) ≤ (i : Int)) = true := hc
      walk_at "if"
      exact bad M' hx (.inl (by have := of_decide_eq_true hc; omega))
    have hc : decide ((200 : Int) ≤ (i : Int)) = false := hc
    have h200 : ¬ 200 ≤ i := by have := of_decide_eq_false hc; omega
    have bm' := bm.ext hx
    refine ⟨a, _, rfl, bm'.at_, rfl, ?_⟩
    have cont : ∀ d, d = stD s → sp_is_step cl CB [.ref a, d] M' (fun d M1 => truM d M1 fun b_1 => ((!b_1) = true → R D' [some (.ref a), some cd, some (.int (i : Nat))] M1) ∧ ((!b_1) = false → D'.nx [some (.ref a), some cd, some (.int (i : Nat))] M1)) EX0 := by
      rintro d rfl
      refine ⟨a, b, s, rfl, bm', ok, hsrc, fun M2 x2 => ⟨fun hb => ?_, fun hb => ?_⟩⟩
      · have hb : isStep b s = false := (Bool.not_eq_true' _).mp hb
        exact bad M2 (hx.trans x2) (.inr hb)
      · have hb : isStep b s = true := by simpa using hb
        exact hnx _ _ ⟨hx.trans x2, fb_skip (k := 0) hat (by rw [Nat.zero_add, hb]; rintro (z | z); exact h200 z; cases z) hn, _, rfl⟩
    rcases hsm with rfl | ⟨q, rfl, hq⟩
    · exact ⟨_, atI_nat (stepsD_at hat), cont _ rfl⟩
    · exact .inl ⟨_, _, _, hq, rfl, atI_nat (stepsD_at hat), cont _ rfl⟩
  have go : dRng1 (dCons (dC (.int ((stepsD code).length : Nat))) dNil) [some (.ref a), some cd, none] M (fun ds stay M1 => ∃ I : Nat → DEnv → Mm → Prop, I 0 [some (.ref a), some cd, none] M1 ∧ (∀ i E M, I i E M → stay M) ∧
      (∀ i E0 M0 d, ds[i]? = some d → I i E0 M0 → dTg (.nm 2) d E0 fun E2 => bodyC CB (sp_is_step cl CB) R { nx := I (i + 1), rt := D0.rt, bk := D0.nx, ct := I (i + 1), xc := D0.xc } E2 M0) ∧ ∀ E0 M0, I ds.length E0 M0 → D0.nx E0 M0) := by
    rw [stepsD_len]
    refine ⟨by omega, by omega, ?_⟩
    refine ⟨fun i E M' => Ext M M' ∧ firstBadF b 0 (code.take i) = none ∧ ∃ x : Option D, E = [some (.ref a), some cd, x], ⟨Ext.refl _, by simp [firstBadF], none, rfl⟩, fun _ _ _ _ => trivial, ?_, ?_⟩
    · rintro i E' M' d hd ⟨hx, hn, x, rfl⟩
      obtain ⟨hi, rfl⟩ := rng_at hd
      have hi : i < code.length := by have : i < (code.length : Int).toNat := hi; omega
      rw [Int.zero_add]
      exact body i M' hi hx hn (hs.ext hx) _ rfl fun E M' z => z
    · rintro E' M' ⟨hx, hn, x, rfl⟩
      rw [rng_len, show ((code.length : Nat) : Int).toNat = code.length by omega, List.take_length] at hn
      exact h1 hn M' x hx
  rcases hs with rfl | ⟨q, rfl, hq⟩
  · exact go
  · exact .inl ⟨_, hq, go⟩
def sp_check_code_x (cl : CF) (CB cE : Addr) : DSp := fun ds M Q E => ∃ (a : Addr) (b : BK) (cd : D) (code : List ST), ds = [.ref a, cd] ∧ BkM cl CB M a b ∧ b.Ok ∧ SeqM M cd (stepsD code) ∧ CodeOk code ∧
  (firstBad b code = none → RetV M Q .non) ∧ (∀ i, firstBad b code = some i → ∀ e M1, Ext M M1 → M1 e = none → E (.ref cE) (some e) (updM M1 e (.xd [("at", .int (i : Nat))])))
theorem r_check_code_x (cl : CF) (CB c_BadCode : Addr) : ∀ ds M Q E, sp_check_code_x cl CB c_BadCode ds M Q E → b_check_code_x CB c_BadCode (sp_is_step cl CB) (EnX Q E) (startD 3 ds) M := by
  rintro ds M Q E ⟨a, b, cd, code, rfl, bm, ok, hs, co, h1, h2⟩
  refine r_check_gen (dRaise c_BadCode "at" okNatD (dVar 2)) (EnX Q E) bm ok hs co (fun i hi hi2 M2 D' x2 hxc => ⟨⟨i, rfl, hi2⟩, fun e he => ?_⟩) fun hn M' x hx => h1 hn M' hx
  rw [hxc]
  exact h2 i hi e M2 x2 he
def sp_check_code (cl : CF) (CB : Addr) : DSp := fun ds M Q _ => ∃ (a : Addr) (b : BK) (cd : D) (code : List ST), ds = [.ref a, cd] ∧ BkM cl CB M a b ∧ b.Ok ∧ SeqM M cd (stepsD code) ∧ CodeOk code ∧ firstBad b code = none ∧ RetV M Q .non
theorem r_check_code (cl : CF) (CB : Addr) : ∀ ds M Q E, sp_check_code cl CB ds M Q E → b_check_code CB (sp_is_step cl CB) (En Q) (startD 3 ds) M := by
  rintro ds M Q E ⟨a, b, cd, code, rfl, bm, ok, hs, co, hn, h1⟩
  exact r_check_gen dNever (En Q) bm ok hs co (fun i hi => by rw [hn] at hi; cases hi) fun _ M' x hx => h1 M' hx
/-! ### run_code, code_price -/
def runS (b : BK) (code : List ST) (st : List Nat) : List Nat := code.foldl (fun st s => stepAfter b s st) st
theorem runS_snoc (b : BK) (l : List ST) (s : ST) (st : List Nat) : runS b (l ++ [s]) st = stepAfter b s (runS b l st) := by unfold runS; rw [List.foldl_append]; rfl
theorem run_ok {b : BK} (ok : b.Ok) : ∀ {code : List ST} {st : List Nat}, (∀ s ∈ code, isStep b s = true) → StOk b st → StOk b (runS b code st)
  | [], _, _, so => so
  | s :: r, st, h, so => run_ok ok (code := r) (fun x hx => h x (List.mem_cons_of_mem _ hx)) (after_ok ok so (h s (by simp)))
end Rk

set_option Elab.async false
set_option linter.all false
set_option autoImplicit false
set_option maxRecDepth 100000
set_option maxHeartbeats 4000000
/-! readings for k88: states, the law's counts -/
namespace Rk
open PySem PySem.Spec PyProof.Rows L2 DH Bd Rd
local macro_rules | `(tactic| walk_at "if") => `(tactic| first | (refine ⟨fun _ => ?_, fun hc => absurd hc (by decide)⟩) | (refine ⟨fun hc => absurd hc (by decide), fun _ => ?_⟩))
/-! ### steps are steps -/
theorem find_self {b : BK} (ok : b.Ok) {d : Str × Nat × D} (h : d ∈ b.deeds) : b.find d.1 = some d := by
  have : ∀ l : List (Str × Nat × D), (l.map (·.1)).Nodup → d ∈ l → l.find? (nmIs d.1) = some d := by
    intro l
    induction l with
    | nil => intro _ h; cases h
    | cons x l ih =>
      intro hn hm
      rw [List.map_cons, List.nodup_cons] at hn
      rw [List.find?_cons]
      by_cases e : x.1 = d.1
      · have : nmIs d.1 x = true := decide_eq_true e
        rw [this]
        rcases List.mem_cons.mp hm with rfl | hm
        · rfl
        · exact absurd (List.mem_map.mpr ⟨d, hm, e.symm⟩) hn.1
      · have : nmIs d.1 x = false := decide_eq_false e
        rw [this]
        rcases List.mem_cons.mp hm with rfl | hm
        · exact absurd rfl e
        · exact ih hn.2 hm
  exact this b.deeds ok.nd h
theorem srcRows_lt (r : Nat) : ∀ (n : Nat) (row : List Nat), row ∈ srcRows r n → ∀ x ∈ row, x < r
  | 0, row, h, x, hx => by simp [srcRows] at h; subst h; cases hx
  | n + 1, row, h, x, hx => by
    simp only [srcRows, List.mem_flatMap, List.mem_map, List.mem_range] at h
    obtain ⟨a, ha, y, hy, rfl⟩ := h
    rcases List.mem_append.mp hx with hx | hx
    · exact srcRows_lt r n a ha x hx
    · cases List.mem_singleton.mp hx; exact hy
theorem deedSteps_mem {b : BK} {d : Str × Nat × D} {s : ST} (h : s ∈ deedSteps b d) : ∃ row wd t, row ∈ srcRows b.r (srcN d.2.2) ∧ wd ∈ wordsOf b d.2.2 ∧ t < b.r ∧ s = ⟨d.1, row.map Int.ofNat, wd, (t : Nat)⟩ := by
  unfold deedSteps at h
  simp only [List.mem_flatMap, List.mem_map, List.mem_range] at h
  obtain ⟨row, h1, wd, h2, t, h3, rfl⟩ := h
  exact ⟨row, wd, t, h1, h2, h3, rfl⟩
theorem deedSteps_ok {b : BK} (ok : b.Ok) {d : Str × Nat × D} (hd : d ∈ b.deeds) {s : ST} (h : s ∈ deedSteps b d) : isStep b s = true ∧ b.find s.nm = some d := by
  obtain ⟨row, wd, t, h1, h2, h3, rfl⟩ := deedSteps_mem h
  have hf := find_self ok hd
  refine ⟨?_, hf⟩
  unfold isStep
  show (match b.find d.1 with
    | none => false
    | some d_1 => stepOk b ⟨d.1, row.map Int.ofNat, wd, (t : Nat)⟩ d_1.2.2) = true
  rw [hf]
  show stepOk b ⟨d.1, row.map Int.ofNat, wd, (t : Nat)⟩ d.2.2 = true
  unfold stepOk
  have e1 : (row.map Int.ofNat).length = srcN d.2.2 := by rw [List.length_map]; exact srcRows_row _ _ _ h1
  have e2 : (row.map Int.ofNat).all (srcOk b) = true := by
    rw [List.all_eq_true]
    intro x hx
    obtain ⟨y, hy, rfl⟩ := List.mem_map.mp hx
    have := srcRows_lt _ _ _ h1 y hy
    unfold srcOk
    have a1 : (0 : Int) ≤ Int.ofNat y := Int.natCast_nonneg y
    have a2 : Int.ofNat y < (b.r : Int) := Int.ofNat_lt.mpr this
    rw [decide_eq_true a1, decide_eq_true a2]; rfl
  have e3 : (hasK d.2.2 == wd.isSome && wdOk b wd) = true := by
    unfold wordsOf at h2
    by_cases hk : hasK d.2.2 = true
    · rw [if_pos hk] at h2
      obtain ⟨x, hx, rfl⟩ := List.mem_map.mp h2
      rw [hk]
      show (true && decide ((x : Int) ∈ b.words.map Int.ofNat)) = true
      have hxm : (x : Int) ∈ b.words.map Int.ofNat := List.mem_map.mpr ⟨x, hx, rfl⟩
      rw [decide_eq_true hxm]; rfl
    · have hk : hasK d.2.2 = false := by simpa using hk
      rw [hk] at h2
      have : wd = none := by simpa using h2
      subst this
      rw [hk]; rfl
  have e4 : decide ((0 : Int) ≤ (t : Int)) = true := decide_eq_true (by omega)
  have e5 : decide ((t : Int) < (b.r : Int)) = true := decide_eq_true (by omega)
  rw [e2, e3, decide_eq_true e1, e4, e5]; rfl
theorem steps_ok {b : BK} (ok : b.Ok) {s : ST} (h : s ∈ b.steps) : isStep b s = true := by
  obtain ⟨d, hd, hs⟩ := List.mem_flatMap.mp h
  exact (deedSteps_ok ok hd hs).1
theorem step_src {b : BK} {s : ST} (h : isStep b s = true) : s.src.length ≤ 2 := by
  obtain ⟨d, f⟩ := step_inv h
  rw [f.sl]; exact srcN_le _
/-! ### how many of each price -/
theorem fm_len_eq {α β : Type} {f : α → List β} {n : Nat} : ∀ {l : List α}, (∀ x ∈ l, (f x).length = n) → (l.flatMap f).length = l.length * n
  | [], _ => by simp
  | a :: l, h => by
    rw [List.flatMap_cons, List.length_append, List.length_cons, Nat.succ_mul, h a (by simp), fm_len_eq fun x hx => h x (List.mem_cons_of_mem _ hx), Nat.add_comm]
theorem srcRows_pow (r : Nat) : ∀ n, (srcRows r n).length = r ^ n
  | 0 => rfl
  | n + 1 => by
    simp only [srcRows]
    rw [fm_len, srcRows_pow r n, Nat.pow_succ]
theorem wordsOf_eq (b : BK) (f : D) : (wordsOf b f).length = if hasK f then b.words.length else 1 := by
  unfold wordsOf
  split
  · rw [List.length_map]
  · rfl
theorem deedSteps_eq (b : BK) (d : Str × Nat × D) : (deedSteps b d).length = stepCount b d.2.2 := by
  unfold deedSteps stepCount
  rw [fm_len_eq (n := (wordsOf b d.2.2).length * b.r) fun row _ => fm_len_eq fun wd _ => by rw [List.length_map, List.length_range], srcRows_pow, wordsOf_eq]
  rw [Nat.mul_comm b.r (b.r ^ srcN d.2.2), Nat.mul_assoc, Nat.mul_comm b.r]
theorem ixN_nat {n j : Nat} (h : j < n) : ixN n (j : Int) = some j := by
  unfold ixN
  simp [h]
/-! ### the law's counts -/
end Rk

set_option Elab.async false
set_option linter.all false
set_option autoImplicit false
set_option maxRecDepth 100000
set_option maxHeartbeats 4000000
/-! readings for k88: caught exceptions, spoilt steps -/
namespace Rk
open PySem PySem.Spec PyProof.Rows L2 DH Bd Rd
local macro_rules | `(tactic| walk_at "if") => `(tactic| first | (refine ⟨fun _ => ?_, fun hc => absurd hc (by decide)⟩) | (refine ⟨fun hc => absurd hc (by decide), fun _ => ?_⟩))
def fbI : Option Nat → Int
  | none => -1
  | some i => i
def sp_lbad (cl : CF) (CB : Addr) : DSp := fun ds M Q _ => ∃ (a : Addr) (b : BK) (cd : D) (code : List ST) (st : List Nat) (k : Nat), ds = [.ref a, cd, .tup (wds st), .int k] ∧ k < 3 ∧ BkM cl CB M a b ∧ b.Ok ∧ SeqM M cd (stepsD code) ∧ CodeOk code ∧ StOk b st ∧ RetV M Q (.int (fbI (firstBad b code)))
/-! ### spoilt steps -/
theorem not_step {b : BK} {s s' : ST} {d : Str × Nat × D} (f : StepF b s d) (hnm : s'.nm = s.nm) (h : StepF b s' d → False) : isStep b s' = false := by
  cases q : isStep b s' with
  | false => rfl
  | true =>
    obtain ⟨d', f'⟩ := step_inv q
    have := f'.find
    rw [hnm, f.find] at this
    cases this
    exact (h f').elim
theorem DaB.go {M M' : Mm} {a aw ad c : Addr} {b : BK} (h : DaB M a aw ad b) (d : Dr c M M') (n0 : a ≠ c) (n1 : aw ≠ c) (n2 : ad ≠ c) : DaB M' a aw ad b := ⟨d.ex _ _ n0 h.h0, d.ex _ _ n1 h.h1, d.ex _ _ n2 h.h2⟩
def sp_lspoilt : DSp := fun ds M Q _ => ∃ (p c a aw ad : Addr) (b : BK) (s : ST), ds = [.ref p, .ref c, .ref a, stD s] ∧ Dw p c M ∧ DaB M a aw ad b ∧ a ≠ c ∧ aw ≠ c ∧ ad ≠ c ∧ b.Ok ∧ isStep b s = true ∧ b.find "zz" = none ∧ ∀ s' M', isStep b s' = false → s'.src.length ≤ 10 → s'.nm.length ≤ 1000 ∧ PyData.strOk s'.nm = true → Dr c M M' → Q (stD s') M'
theorem find_nm {b : BK} {n : Str} {d : Str × Nat × D} (h : b.find n = some d) : d.1 = n := by
  rw [BK.find_eq] at h
  have := List.find?_some (p := nmIs n) h
  exact of_decide_eq_true this
section
variable {M1 : Mm} {Q : DQ} {p c a aw ad : Addr} {b : BK} {d : Str × Nat × D} {nm : Str} {src : List Int} {wd : Option Int} {tg : Int} {r : Nat}
theorem sp_cut (src : List Int) : cutL D (src.map D.int) (some 1) none = (src.drop 1).map D.int := by rw [cut1, List.map_drop]
theorem sp_pos (hc : decide ((0 : Int) < (((src.map D.int).length : Nat) : Int)) = true) : 0 < src.length := by
  have := of_decide_eq_true hc
  rw [List.length_map] at this; omega
theorem sp_sz (h : src.length ≤ 2) : src.length + 10 ≤ sizeLine := Nat.le_of_lt (tolist (by omega))
end
end Rk

set_option Elab.async false
set_option linter.all false
set_option autoImplicit false
set_option maxRecDepth 100000
set_option maxHeartbeats 4000000
/-! readings for k88: a drawn book -/
namespace Rk
open PySem PySem.Spec PyProof.Rows L2 DH Bd Rd
local macro_rules | `(tactic| walk_at "if") => `(tactic| first | (refine ⟨fun _ => ?_, fun hc => absurd hc (by decide)⟩) | (refine ⟨fun hc => absurd hc (by decide), fun _ => ?_⟩))
def names6 : List Str := ["add", "x", "nand1", "shlk", "q7", "set"]
/-- a formula that a deed may have -/
structure FmF (w : Nat) (f : D) : Prop where
  wf : wfD w abk f = true
  de : depthD f ≤ 2
theorem sz13 {w : Nat} {f : D} (h : FmF w f) : sizeD f ≤ 13 := Nat.le_trans (wf_szB 2 f h.wf h.de) (by decide)
theorem FmF.fm {w : Nat} {f : D} (h : FmF w f) : FmOk f := ⟨wf_tree _ h.wf, by have := h.de; omega, by have := sz13 h; omega⟩
structure DeedF (w : Nat) (d : Str × Nat × D) : Prop where
  pr : 1 ≤ d.2.1 ∧ d.2.1 ≤ 9
  fm : FmF w d.2.2
  sz : sizeD d.2.2 ≤ 9
  ba : hasB d.2.2 = true → hasA d.2.2 = true
/-- while the deeds are drawn -/
structure BkI (p c q8 : Addr) (M0 M : Mm) (L : List (Str × Nat × D)) : Prop where
  dw : Dw p c M0
  dr : Dr c M0 M
  q0 : M0 q8 = none
  m8 : M q8 = some (.lst (L.map deedD))
  ll : L.length ≤ 6
section
variable {p c q8 q4 : Addr} {M0 M : Mm} {L : List (Str × Nat × D)} {w r cnt base k : Nat} {x5 x10 x11 x12 : Option D} {D' : DEnds} {f : D}
theorem BkI.ext {M' : Mm} (h : BkI p c q8 M0 M L) (e : Ext M M') : BkI p c q8 M0 M' L := ⟨h.dw, h.dr.trans (.ofExt e), h.q0, e _ _ h.m8, h.ll⟩
theorem BkI.go {M' : Mm} (h : BkI p c q8 M0 M L) (d : Dr c M M') : BkI p c q8 M0 M' L := ⟨h.dw, h.dr.trans d, h.q0, d.ex _ _ (h.dw.cne h.q0) h.m8, h.ll⟩
theorem BkI.now (h : BkI p c q8 M0 M L) : Dw p c M := h.dw.go h.dr
theorem six_names : ∀ i : Fin 6, (names6.map D.str)[i.1]? = some (.str (names6.getD i.1 "")) := fun i => match i with
  | ⟨0, _⟩ => rfl
  | ⟨1, _⟩ => rfl
  | ⟨2, _⟩ => rfl
  | ⟨3, _⟩ => rfl
  | ⟨4, _⟩ => rfl
  | ⟨5, _⟩ => rfl
theorem wf1 {w : Nat} {o : Op} {x : D} (h1 : o.ar = 1) (hx : wfD w abk x = true) : wfD w abk (.tup [.str o.nm, x]) = true := by
  simp only [wfD, opOf_of, wfDs, hx, h1, Bool.and_true]
  rfl
theorem wf2 {w : Nat} {o : Op} {x y : D} (h2 : o.ar = 2) (hx : wfD w abk x = true) (hy : wfD w abk y = true) : wfD w abk (.tup [.str o.nm, x, y]) = true := by
  simp only [wfD, opOf_of, wfDs, hx, hy, h2, Bool.and_true]
  rfl
theorem wfa {w : Nat} {s : Str} (h : s ∈ abk) : wfD w abk (.str s) = true := by simp only [wfD]; exact decide_eq_true h
theorem two_depth (o x y : D) : depthD (.tup [o, x, y]) = max (depthD x) (max (depthD y) 0) + 1 := by simp only [depthD, depthDs]
theorem two_size (o x y : D) : sizeD (.tup [o, x, y]) = 1 + (sizeD x + (sizeD y + 0)) := by simp only [sizeD, sizeDs]
end
end Rk

set_option Elab.async false
set_option linter.all false
set_option autoImplicit false
set_option maxRecDepth 100000
set_option maxHeartbeats 4000000
/-! readings for k88: a drawn book, the whole -/
namespace Rk
open PySem PySem.Spec PyProof.Rows L2 DH Bd Rd
local macro_rules | `(tactic| walk_at "if") => `(tactic| first | (refine ⟨fun _ => ?_, fun hc => absurd hc (by decide)⟩) | (refine ⟨fun hc => absurd hc (by decide), fun _ => ?_⟩))
/-- names that no drawn book has -/
structure NmZ (b : BK) : Prop where
  zz : b.find "zz" = none
  a9 : b.find "add9" = none
def nmsL (base n : Nat) : List Str := (List.range n).map fun k => names6.getD ((k + base) % 6) ""
theorem nms_ok : ∀ base : Fin 6, ∀ n : Fin 7, (nmsL base.1 n.1).Nodup ∧ ∀ s ∈ nmsL base.1 n.1, s ∈ names6 := by decide +kernel
theorem names6_ok : ∀ s ∈ names6, isNameS s = true ∧ s.length ≤ 1000 ∧ PyData.strOk s = true ∧ s ≠ "zz" ∧ s ≠ "add9" := by decide +kernel
structure WsOk (w : Nat) (ws : List Nat) : Prop where
  len : ws.length ≤ 16
  lt : ∀ x ∈ ws, x < 2 ^ w
  asc : ws.Pairwise (· < ·)
theorem reg_most : ∀ w : Fin 5, 1 ≤ w.1 → ∃ m : Fin 5, 1 ≤ m.1 ∧ (if (8 : Int) / ((w.1 : Nat) : Int) < 4 then (8 : Int) / ((w.1 : Nat) : Int) else 4) = ((m.1 : Nat) : Int) ∧ w.1 * m.1 ≤ 8 := by decide
end Rk

set_option Elab.async false
set_option linter.all false
set_option autoImplicit false
set_option maxRecDepth 100000
set_option maxHeartbeats 4000000
/-! readings for k88: the book is asked -/
namespace Rk
open PySem PySem.Spec PyProof.Rows L2 DH Bd Rd
local macro_rules | `(tactic| walk_at "if") => `(tactic| first | (refine ⟨fun _ => ?_, fun hc => absurd hc (by decide)⟩) | (refine ⟨fun hc => absurd hc (by decide), fun _ => ?_⟩))
theorem vw_list {M : Mm} {a : Addr} {n : Nat} {ds : List D} (h : M a = some (.lst ds)) (hd : ∀ d ∈ ds, OkD n d) : Vw M (.ref a) (.list (toPDs ds)) := by
  obtain ⟨h1, _, _⟩ := ok_list hd
  obtain ⟨h2, h3⟩ := vw_pures (M := M) ds h1
  exact .lst _ h h2 h3
theorem list_shaped {n : Nat} {ds : List D} (hn : n ≤ 60) (hd : ∀ d ∈ ds, OkD n d) : (PyData.list (toPDs ds)).canLay0 = true ∧ SeqAt.shaped (PyData.list (toPDs ds)) = true := by
  obtain ⟨_, c1, e1⟩ := ok_list hd
  have cl : (PyData.list (toPDs ds)).canLay0 = true := by simp only [PyData.canLay0, c1]
  refine ⟨cl, ?_⟩
  unfold SeqAt.shaped
  rw [cl, Bool.true_and, decide_eq_true_eq]
  simp only [PyData.depth]
  omega
theorem ne_lists {M : Mm} {a b : Addr} {n : Nat} {ds : List D} {Q : DQ} (ha : M a = some (.lst ds)) (hb : M b = some (.lst ds)) (hd : ∀ d ∈ ds, OkD n d) (hn : n ≤ 60) (q : Q (.bl false) M) : oNe (.ref a) (.ref b) M Q := by
  obtain ⟨s0, s1⟩ := list_shaped hn hd
  refine ⟨_, _, vw_list ha hd, vw_list hb hd, s1, s1, ?_⟩
  rw [SeqAt.eqv_refl _ s0]; exact q
theorem eq_lists {M : Mm} {a b : Addr} {n : Nat} {ds : List D} {Q : DQ} (ha : M a = some (.lst ds)) (hb : M b = some (.lst ds)) (hd : ∀ d ∈ ds, OkD n d) (hn : n ≤ 60) (q : Q (.bl true) M) : oEq (.ref a) (.ref b) M Q := by
  obtain ⟨s0, s1⟩ := list_shaped hn hd
  refine .inl ⟨_, _, vw_list ha hd, vw_list hb hd, s1, s1, ?_⟩
  rw [SeqAt.eqv_refl _ s0]; exact q
theorem tB_op {E : DEnv} {i j : Nat} {x y : D} {o : D2} {M : Mm} {Q : Bool → Mm → Prop} (hi : E[i]? = some (some x)) (hj : E[j]? = some (some y)) (h : o x y M fun d M1 => match d with
    | .bl b => Q b M1
    | _ => False) : dtB (dOp o (dVar i) (dVar j)) E M Q := by
  unfold dtB dOp dVar
  rw [hi]
  simp only [hj]
  exact h
theorem ok_non (n : Nat) : OkD n .non := ⟨rfl, rfl, Nat.zero_le _⟩
theorem ok_step {s : ST} (h : PyData.strOk s.nm = true) : OkD 3 (stD s) := ok_tup fun d hd => by
  simp only [List.mem_cons, List.not_mem_nil, or_false] at hd
  rcases hd with rfl | rfl | rfl | rfl
  · exact ok_str h _
  · exact (ok_tup (n := 0) fun e he => by obtain ⟨x, _, rfl⟩ := List.mem_map.mp he; exact ok_int _ _).mono (by decide)
  · cases s.wd with
    | none => exact ok_non _
    | some v => exact ok_int _ _
  · exact ok_int _ _
theorem ok_steps {l : List ST} (h : ∀ s ∈ l, PyData.strOk s.nm = true) : ∀ d ∈ stepsD l, OkD 3 d := fun d hd => by
  obtain ⟨s, hs, rfl⟩ := List.mem_map.mp hd
  exact ok_step (h s hs)
theorem step_strOk {b : BK} (ok : b.Ok) {s : ST} (h : isStep b s = true) : PyData.strOk s.nm = true := by
  obtain ⟨d, f⟩ := step_inv h
  have := (ok.nm d f.mem).2.2
  rw [find_nm f.find] at this; exact this
theorem BkM.go {cl : CF} {CB c x : Addr} {M M' : Mm} {b : BK} (h : BkM cl CB M x b) (d : Dr c M M') (n : x ≠ c) : BkM cl CB M' x b := ⟨d.ex _ _ n h.at_, h.cl⟩
end Rk

set_option Elab.async false
set_option linter.all false
set_option autoImplicit false
set_option maxRecDepth 100000
set_option maxHeartbeats 4000000
/-! readings for k88: the law, its tails -/
namespace Rk
open PySem PySem.Spec PyProof.Rows L2 DH Bd Rd
local macro_rules | `(tactic| walk_at "if") => `(tactic| first | (refine ⟨fun _ => ?_, fun hc => absurd hc (by decide)⟩) | (refine ⟨fun hc => absurd hc (by decide), fun _ => ?_⟩))
/-- what holds all along the law -/
structure LI (cl : CF) (CB p c a aw ad x : Addr) (b : BK) (M : Mm) : Prop where
  dw : Dw p c M
  da : DaB M a aw ad b
  bm : BkM cl CB M x b
  n0 : a ≠ c
  n1 : aw ≠ c
  n2 : ad ≠ c
  nx : x ≠ c
  ok : b.Ok
  nz : NmZ b
structure CoI (code : List ST) : Prop where
  co : CodeOk code
  nm : ∀ s ∈ code, PyData.strOk s.nm = true
theorem CoI.oks {code : List ST} (h : CoI code) : ∀ d ∈ stepsD code, OkD 3 d := ok_steps h.nm
section
variable {cl : CF} {CB p c a aw ad x q qc : Addr} {b : BK} {M : Mm} {s0 m : D} {x8 x9 x10 x11 x12 x13 x14 x15 x16 x17 x18 : Option D} {code : List ST} {st : List Nat} {Q : DQ}
theorem LI.go {M' : Mm} (L : LI cl CB p c a aw ad x b M) (d : Dr c M M') : LI cl CB p c a aw ad x b M' := ⟨L.dw.go d, L.da.go d L.n0 L.n1 L.n2, L.bm.go d L.nx, L.n0, L.n1, L.n2, L.nx, L.ok, L.nz⟩
theorem LI.ext {M' : Mm} (L : LI cl CB p c a aw ad x b M) (e : Ext M M') : LI cl CB p c a aw ad x b M' := L.go (.ofExt e)
end
end Rk

set_option Elab.async false
set_option linter.all false
set_option autoImplicit false
set_option maxRecDepth 100000
set_option maxHeartbeats 4000000
/-! readings for k88: the law, its head -/
namespace Rk
open PySem PySem.Spec PyProof.Rows L2 DH Bd Rd
local macro_rules | `(tactic| walk_at "if") => `(tactic| first | (refine ⟨fun _ => ?_, fun hc => absurd hc (by decide)⟩) | (refine ⟨fun hc => absurd hc (by decide), fun _ => ?_⟩))
theorem fb_all {b : BK} : ∀ {code : List ST} {k : Nat}, (∀ s ∈ code, isStep b s = true) → k ≤ 200 → firstBadF b k code = if 200 < k + code.length then some 200 else none
  | [], k, _, hk => by rw [if_neg (by simp; omega)]; rfl
  | s :: r, k, h, hk => by
    have hs := h s (by simp)
    simp only [firstBadF, List.length_cons]
    by_cases e : 200 ≤ k
    · rw [if_pos (.inl e), if_pos (by omega)]
      congr 1; omega
    · rw [if_neg (by rintro (z | z); exact e z; rw [hs] at z; cases z), fb_all (fun x hx => h x (List.mem_cons_of_mem _ hx)) (by omega)]
      have : k + 1 + r.length = k + (r.length + 1) := by omega
      rw [this]
theorem fb_spoilt {b : BK} {code : List ST} {i : Nat} {s' : ST} (h : ∀ s ∈ code, isStep b s = true) (hi : i < code.length) (hs : isStep b s' = false) : firstBad b (code.set i s') = some (min i 200) := by
  have e : ∃ z, (code.set i s')[min i 200]? = some z ∧ (200 ≤ 0 + min i 200 ∨ isStep b z = false) := by
    by_cases h2 : i < 200
    · refine ⟨s', ?_, .inr hs⟩
      rw [show min i 200 = i by omega, List.getElem?_set_self hi]
    · have hl : min i 200 < (code.set i s').length := by rw [List.length_set]; omega
      exact ⟨_, getE hl, .inl (by omega)⟩
  obtain ⟨z, h1, h2⟩ := e
  have ht : (code.set i s').take (min i 200) = code.take (min i 200) := by
    rw [List.take_set, List.set_eq_of_length_le]
    rw [List.length_take]; omega
  have := fb_hit (k := 0) h1 h2 (by
    rw [ht, fb_all (fun s hs => h s (List.mem_of_mem_take hs)) (by omega), if_neg]
    rw [List.length_take]; omega)
  rw [Nat.zero_add] at this
  exact this
section
variable {cl : CF} {CB p c a aw ad x q qc : Addr} {b : BK} {M M0 : Mm} {s0 m : D} {x8 x9 x10 x11 x12 x13 x14 x15 x16 x17 x18 : Option D} {code : List ST} {st : List Nat} {Q : DQ}
end
def sp_law : DSp := fun ds M Q _ => ∃ ns : List Int, ds = [.fl (ns.map D.int)] ∧ ns.length ≤ 63 ∧ ∀ M', Q (.bl true) M'
end Rk

set_option Elab.async false
set_option linter.all false
set_option autoImplicit false
set_option maxRecDepth 100000
set_option maxHeartbeats 4000000
/-! readings for k78: what is live -/
namespace Rv
open PySem PySem.Spec PyProof.Rows L2 DH Bd Rd Rk
local macro_rules | `(tactic| walk_at "if") => `(tactic| first | (refine ⟨fun _ => ?_, fun hc => absurd hc (by decide)⟩) | (refine ⟨fun hc => absurd hc (by decide), fun _ => ?_⟩))
/-! ### plain -/
theorem asc_len : ∀ (l : List Nat) (k n : Nat), l.Pairwise (· < ·) → (∀ x ∈ l, k ≤ x ∧ x < n) → l.length ≤ n - k
  | [], _, _, _, _ => Nat.zero_le _
  | x :: r, k, n, hp, h => by
    rw [List.pairwise_cons] at hp
    have hx := h x (by simp)
    have := asc_len r (x + 1) n hp.2 fun y hy => ⟨hp.1 y hy, (h y (List.mem_cons_of_mem _ hy)).2⟩
    rw [List.length_cons]; omega
theorem asc_ext : ∀ (a b : List Int), a.Pairwise (· < ·) → b.Pairwise (· < ·) → (∀ k, k ∈ a ↔ k ∈ b) → a = b
  | [], [], _, _, _ => rfl
  | [], y :: b, _, _, h => absurd ((h y).mpr (by simp)) (by simp)
  | x :: a, [], _, _, h => absurd ((h x).mp (by simp)) (by simp)
  | x :: a, y :: b, ha, hb, h => by
    rw [List.pairwise_cons] at ha hb
    have e : x = y := by
      have h1 := (h x).mp (by simp)
      have h2 := (h y).mpr (by simp)
      rcases List.mem_cons.mp h1 with h1 | h1
      · exact h1
      · rcases List.mem_cons.mp h2 with h2 | h2
        · exact h2.symm
        · have := hb.1 x h1
          have := ha.1 y h2
          omega
    subst e
    rw [asc_ext a b ha.2 hb.2 fun k => ⟨fun hk => ?_, fun hk => ?_⟩]
    · have := ha.1 k hk
      rcases List.mem_cons.mp ((h k).mp (List.mem_cons_of_mem _ hk)) with z | z
      · omega
      · exact z
    · have := hb.1 k hk
      rcases List.mem_cons.mp ((h k).mpr (List.mem_cons_of_mem _ hk)) with z | z
      · omega
      · exact z
structure EndsOk (r : Nat) (l : List Nat) : Prop where
  asc : l.Pairwise (· < ·)
  lt : ∀ x ∈ l, x < r
theorem EndsOk.len {r : Nat} {l : List Nat} (h : EndsOk r l) : l.length ≤ r := by
  have := asc_len l 0 r h.asc fun x hx => ⟨Nat.zero_le _, h.lt x hx⟩
  omega
def liveB (s : ST) (live : List Nat) (r : Nat) : Bool := decide ((r : Int) ∈ s.src) || (decide (r ∈ live) && decide ((r : Int) ≠ s.tg))
def liveA (s : ST) (live : List Nat) : List Nat := (List.range 4).filter (liveB s live)
def liveL : List ST → List Nat → List (List Nat)
  | [], ends => [ends]
  | s :: r, ends => liveA s ((liveL r ends).headD []) :: liveL r ends
theorem liveB_iff {s : ST} {live : List Nat} {r : Nat} : liveB s live r = true ↔ (r : Int) ∈ s.src ∨ (r ∈ live ∧ (r : Int) ≠ s.tg) := by
  unfold liveB
  rw [Bool.or_eq_true, Bool.and_eq_true, decide_eq_true_eq, decide_eq_true_eq, decide_eq_true_eq]
theorem liveA_ok {r : Nat} {s : ST} {live : List Nat} (hs : ∀ x ∈ s.src, 0 ≤ x ∧ x < (r : Int)) (hl : EndsOk r live) : EndsOk r (liveA s live) := by
  refine ⟨List.Pairwise.filter _ List.pairwise_lt_range, fun x hx => ?_⟩
  obtain ⟨_, hb⟩ := List.mem_filter.mp hx
  rcases liveB_iff.mp hb with h | h
  · have := (hs _ h).2; omega
  · exact hl.lt x h.1
theorem liveL_len (ends : List Nat) : ∀ code : List ST, (liveL code ends).length = code.length + 1
  | [] => rfl
  | s :: r => by
    show (liveL r ends).length + 1 = _
    rw [liveL_len ends r]; rfl
theorem liveL_cons (code : List ST) (ends : List Nat) : ∃ h t, liveL code ends = h :: t := by
  cases code <;> exact ⟨_, _, rfl⟩
theorem liveL_ok {b : BK} {ends : List Nat} (he : EndsOk b.r ends) : ∀ {code : List ST}, (∀ s ∈ code, isStep b s = true) → ∀ l ∈ liveL code ends, EndsOk b.r l
  | [], _, l, h => by cases List.mem_singleton.mp h; exact he
  | s :: r, hst, l, h => by
    have ih := liveL_ok he (code := r) fun x hx => hst x (List.mem_cons_of_mem _ hx)
    rcases List.mem_cons.mp h with rfl | h
    · obtain ⟨d, f⟩ := step_inv (hst s (by simp))
      obtain ⟨x, t, e⟩ := liveL_cons r ends
      refine liveA_ok f.src ?_
      rw [e]
      exact ih x (by rw [e]; simp)
    · exact ih l h
theorem liveL_drop {code : List ST} {ends : List Nat} : ∀ {i : Nat}, i ≤ code.length → (liveL code ends)[i]? = some ((liveL (code.drop i) ends).headD []) := by
  induction code with
  | nil =>
    intro i h
    have : i = 0 := by simpa using h
    subst this; rfl
  | cons s r ih =>
    intro i h
    cases i with
    | zero => rfl
    | succ i => exact ih (by simpa using h)
/-! ### live_ahead -/
def keptL (s : ST) (l : List Nat) : List Nat := l.filter fun x => !decide ((x : Int) = s.tg)
theorem wds_app (a b : List Nat) : wds (a ++ b) = wds a ++ wds b := List.map_append
def sp_live_ahead : DSp := fun ds M Q _ => ∃ (s : ST) (live : List Nat) (r : Nat), ds = [stD s, .tup (wds live)] ∧ r ≤ 4 ∧ EndsOk r live ∧ (∀ x ∈ s.src, 0 ≤ x ∧ x < (r : Int)) ∧ s.src.length ≤ 2 ∧ RetV M Q (.tup (wds (liveA s live)))
theorem r_live_ahead : ∀ ds M Q E, sp_live_ahead ds M Q E → b_live_ahead (En Q) (startD 8 ds) M := by
  rintro ds M Q E ⟨s, live, r, rfl, r4, hl, hs, h2, h⟩
  have ll := hl.len
  refine ⟨rfl, fun p hp => ?_⟩
  refine ⟨fun i acc M' => Ext M M' ∧ M' p = some (.lst acc) ∧ acc = wds (keptL s (live.take i)), ⟨Ext.new hp, updM_same, rfl⟩, fun _ _ _ _ => trivial, ?_, ?_⟩
  · rintro i acc M' d hd ⟨hx, hm, rfl⟩
    rw [List.getElem?_map] at hd
    obtain ⟨x, hxi, rfl⟩ := Option.map_eq_some_iff.mp hd
    have e1 : keptL s (live.take (i + 1)) = keptL s (live.take i) ++ (if (x : Int) = s.tg then [] else [x]) := by
      rw [take_snoc hxi]
      unfold keptL
      rw [List.filter_append]
      congr 1
      by_cases hxt : (x : Int) = s.tg
      · rw [if_pos hxt]; simp [hxt]
      · rw [if_neg hxt]; simp [hxt]
    refine ⟨fun hb => ?_, fun hb => ?_⟩
    · have hb : (!decide ((x : Int) = s.tg)) = true := hb
      have hxt : ¬ (x : Int) = s.tg := by simpa using hb
      refine ⟨hm, tolist ?_, hx.mut hp, updM_same, ?_⟩
      · rw [wds_len]
        have h1 : (keptL s (live.take i)).length ≤ (live.take i).length := List.length_filter_le _ _
        rw [List.length_take] at h1
        omega
      · rw [e1, if_neg hxt, wds_snoc]
    · have hb : (!decide ((x : Int) = s.tg)) = false := hb
      have hxt : (x : Int) = s.tg := by simpa using hb
      exact ⟨hx, hm, by rw [e1, if_pos hxt, List.append_nil]⟩
  · rintro acc M' ⟨hx, hm, rfl⟩
    rw [wds_len, List.take_length] at hm
    have h1 : (keptL s live).length ≤ live.length := List.length_filter_le _ _
    refine ⟨_, .inr ⟨p, rfl, hm⟩, _, .inl rfl, ?_⟩
    have en : wds (keptL s live) ++ (s.src.map D.int ++ []) = ((keptL s live).map Int.ofNat ++ s.src).map D.int := by
      rw [List.append_nil, List.map_append, ← wds_ints]
    have hlen : ((keptL s live).map Int.ofNat ++ s.src).length ≤ 6 := by rw [List.length_append, List.length_map]; omega
    show (wds (keptL s live) ++ (s.src.map D.int ++ [])).length ≤ sizeLine ∧ _
    rw [en]
    refine ⟨by rw [List.length_map]; exact Nat.le_of_lt (tolist (by omega)), fun q hq => ?_⟩
    refine ⟨q, _, rfl, updM_same, by omega, fun ms p2 hs2 hm2 hp2 => ?_⟩
    have em : ms = (liveA s live).map Int.ofNat := by
      refine asc_ext _ _ hs2 ?_ fun k => ?_
      · rw [List.pairwise_map]
        exact (liveA_ok hs hl).asc.imp fun {a b} hab => Int.ofNat_lt.mpr hab
      · rw [hm2 k, List.mem_append, List.mem_map, List.mem_map]
        constructor
        · rintro (⟨x, hx, rfl⟩ | hk)
          · obtain ⟨h3, h4⟩ := List.mem_filter.mp hx
            have := hl.lt x h3
            exact ⟨x, List.mem_filter.mpr ⟨List.mem_range.mpr (by omega), liveB_iff.mpr (.inr ⟨h3, by simpa using h4⟩)⟩, rfl⟩
          · have := hs k hk
            refine ⟨k.toNat, List.mem_filter.mpr ⟨List.mem_range.mpr (by omega), liveB_iff.mpr (.inl ?_)⟩, ?_⟩
            · rw [Int.toNat_of_nonneg this.1]; exact hk
            · show ((k.toNat : Nat) : Int) = k
              omega
        · rintro ⟨x, hx, rfl⟩
          obtain ⟨h3, h4⟩ := List.mem_filter.mp hx
          rcases liveB_iff.mp h4 with h5 | ⟨h5, h6⟩
          · exact .inr h5
          · exact .inl ⟨x, List.mem_filter.mpr ⟨h5, by simpa using h6⟩, rfl⟩
    subst em
    refine ⟨_, updM_same, ?_⟩
    rw [← wds_ints]
    exact h _ ((hx.trans (Ext.new hq)).trans (Ext.new hp2))
/-! ### live_sets -/
def b_ls_rest (s_live_ahead : DSp) : DS := dSeq (dAsg (dLst (dCons (dL oTuple (dCons (dVar 2) (dNil))) (dNil))) (.nm 3)) (dSeq (dFor (dIter (dRevL (dVar 1))) (.nm 4) (dDrop (dApp (dVar 3) (dCall s_live_ahead (dCons (dVar 4) (dCons (dOp oIx (dVar 3) (dUn oNeg (dC (.int 1)))) (dNil))))))) (dRet (dRevL (dVar 3))))
theorem r_ls_rest {a q : Addr} {b : BK} {code : List ST} {ends : List Nat} {M : Mm} {D0 : DEnds} (ok : b.Ok) (hq : M q = some (.lst (stepsD code))) (hl : code.length ≤ 1000) (hst : ∀ s ∈ code, isStep b s = true) (he : EndsOk b.r ends)
    (h : ∀ p M', M p = none → Ext M M' → M' p = some (.lst (rowsD (liveL code ends))) → D0.rt (.ref p) M') : b_ls_rest sp_live_ahead D0 [some (.ref a), some (.ref q), some (.tup (wds ends)), none, none] M := by
  have r4 := ok.r4
  refine ⟨by show 1 ≤ sizeLine; decide, fun p hp => ?_⟩
  have xp := Ext.new (o := .lst [.tup (wds ends)]) hp
  have pm : updM M p (.lst [.tup (wds ends)]) p = some (.lst ((rowsD (liveL (code.drop code.length) ends)).reverse)) := by
    rw [updM_same, List.drop_length]; rfl
  generalize updM M p (.lst [.tup (wds ends)]) = M1 at xp pm ⊢
  refine ⟨q, _, rfl, xp _ _ hq, fun p2 hp2 => ?_⟩
  have er : (stepsD code).reverse = stepsD code.reverse := by unfold stepsD; rw [List.map_reverse]
  rw [er]
  have hne : p ≠ p2 := Ext.ne pm hp2
  refine ⟨_, updM_same, ?_⟩
  refine ⟨fun i E M' => Ext M M' ∧ M' p2 = some (.lst (stepsD code.reverse)) ∧ M' p = some (.lst ((rowsD (liveL (code.drop (code.length - i)) ends)).reverse)) ∧ ∃ x : Option D, E = [some (.ref a), some (.ref q), some (.tup (wds ends)), some (.ref p), x], ⟨xp.trans (Ext.new hp2), updM_same, by rw [updM_ne hne]; exact pm, none, rfl⟩, fun i E M' z => z.2.1, ?_, ?_⟩
  · rintro i E M' d hd ⟨hx, hm2, hm, x, rfl⟩
    obtain ⟨s, hsi, rfl⟩ := stepsD_get hd
    have hi : i < code.length := by have := lt_at hsi; rwa [List.length_reverse] at this
    rw [List.getElem?_reverse hi] at hsi
    have hdr : code.drop (code.length - (i + 1)) = s :: code.drop (code.length - i) := by
      have h1 : code.length - (i + 1) < code.length := by omega
      have h2 := List.drop_eq_getElem_cons h1
      have h3 : code.length - 1 - i = code.length - (i + 1) := by omega
      rw [h3, List.getElem?_eq_getElem h1] at hsi
      rw [h2, Option.some.inj hsi, show code.length - (i + 1) + 1 = code.length - i by omega]
    have hsm : s ∈ code := mem_at hsi
    obtain ⟨dd, f⟩ := step_inv (hst s hsm)
    obtain ⟨hh, tt, e⟩ := liveL_cons (code.drop (code.length - i)) ends
    have hok : EndsOk b.r hh := liveL_ok he (code := code.drop (code.length - i)) (fun y hy => hst y (List.mem_of_mem_drop hy)) hh (by rw [e]; simp)
    have hlen := liveL_len ends (code.drop (code.length - i))
    have e2 : (rowsD (liveL (code.drop (code.length - i)) ends)).reverse = (rowsD tt).reverse ++ [.tup (wds hh)] := by rw [e]; unfold rowsD; rw [List.map_cons, List.reverse_cons]
    have hml := hm
    rw [e2] at hm
    refine ⟨⟨_, hm⟩, ?_⟩
    refine .inl ⟨_, _, _, hm, rfl, at_last _ _, ?_⟩
    refine ⟨s, hh, b.r, rfl, r4, hok, f.src, by rw [f.sl]; exact srcN_le _, fun M2 x2 => ?_⟩
    refine ⟨_, x2 _ _ hml, tolist ?_, (hx.trans x2).mut hp, ?_, ?_, _, rfl⟩
    · unfold rowsD
      rw [List.length_reverse, List.length_map, hlen, List.length_drop]
      omega
    · rw [updM_ne (Ne.symm (fun z => hne z.symm) |> fun z => fun y => hne y.symm)]
      exact x2 _ _ hm2
    · rw [updM_same, hdr]
      show _ = some (MO.lst (rowsD (liveA s ((liveL (code.drop (code.length - i)) ends).headD []) :: liveL (code.drop (code.length - i)) ends)).reverse)
      unfold rowsD
      rw [List.map_cons, List.reverse_cons, e]; rfl
  · rintro E M' ⟨hx, hm2, hm, x, rfl⟩
    rw [stepsD_len, List.length_reverse, Nat.sub_self, List.drop_zero] at hm
    refine ⟨p, _, rfl, hm, fun p3 hp3 => ?_⟩
    refine h p3 _ (hx.back hp3) (hx.trans (Ext.new hp3)) ?_
    rw [updM_same, List.reverse_reverse]
def sp_live_sets (cl : CF) (CB : Addr) : DSp := fun ds M Q _ => ∃ (a q : Addr) (b : BK) (code : List ST) (ends : List Nat), ds = [.ref a, .ref q, .tup (wds ends)] ∧ BkM cl CB M a b ∧ b.Ok ∧ M q = some (.lst (stepsD code)) ∧ CodeOk code ∧ EndsOk b.r ends ∧ firstBad b code = none ∧ RetL M Q (rowsD (liveL code ends))
theorem r_live_sets (cl : CF) (CB : Addr) : ∀ ds M Q E, sp_live_sets cl CB ds M Q E → b_live_sets (sp_check_code cl CB) sp_live_ahead (En Q) (startD 5 ds) M := by
  rintro ds M Q E ⟨a, q, b, code, ends, rfl, bm, ok, hq, co, he, hn, h⟩
  refine ⟨a, b, .ref q, code, rfl, bm, ok, .inr ⟨q, rfl, hq⟩, co, hn, fun M1 x1 => ?_⟩
  exact r_ls_rest (D0 := En Q) ok (x1 _ _ hq) co.len (fb_none hn) he fun p M' hp hx hm => h p M' (x1.back hp) (x1.trans hx) hm
def sp_live_sets_x (cl : CF) (CB cE : Addr) : DSp := fun ds M Q E => ∃ (a q : Addr) (b : BK) (code : List ST) (ends : List Nat), ds = [.ref a, .ref q, .tup (wds ends)] ∧ BkM cl CB M a b ∧ b.Ok ∧ M q = some (.lst (stepsD code)) ∧ CodeOk code ∧ EndsOk b.r ends ∧
  (firstBad b code = none → RetL M Q (rowsD (liveL code ends))) ∧ (∀ i, firstBad b code = some i → ∀ e M1, Ext M M1 → M1 e = none → E (.ref cE) (some e) (updM M1 e (.xd [("at", .int (i : Nat))])))
theorem r_live_sets_x (cl : CF) (CB c_BadCode : Addr) : ∀ ds M Q E, sp_live_sets_x cl CB c_BadCode ds M Q E → b_live_sets_x (sp_check_code_x cl CB c_BadCode) sp_live_ahead (EnX Q E) (startD 5 ds) M := by
  rintro ds M Q E ⟨a, q, b, code, ends, rfl, bm, ok, hq, co, he, h1, h2⟩
  refine ⟨a, b, .ref q, code, rfl, bm, ok, .inr ⟨q, rfl, hq⟩, co, fun hn M1 x1 => ?_, fun i hi e M1 x1 he => h2 i hi e M1 x1 he⟩
  exact r_ls_rest (D0 := EnX Q E) ok (x1 _ _ hq) co.len (fb_none hn) he fun p M' hp hx hm => h1 hn p M' (x1.back hp) (x1.trans hx) hm
end Rv

set_option Elab.async false
set_option linter.all false
set_option autoImplicit false
set_option maxRecDepth 100000
set_option maxHeartbeats 4000000
/-! readings for k78: the text of a window, plain -/
namespace Rv
open PySem PySem.Spec PyProof.Rows L2 DH Bd Rd Rk
/-! ### names -/
def rN (i : Nat) : Str := ("r" : Str) ++ ((toString ((i : Nat) : Int) : String) : Str)
def tN (i : Nat) : Str := ("t" : Str) ++ ((toString ((i : Nat) : Int) : String) : Str)
theorem rN_all : ∀ k : Fin 61, (isNameS (rN k.1) && !isOpS (rN k.1)) = true ∧ (rN k.1).length ≤ 100 ∧ PyData.strOk (rN k.1) = true ∧ digV (rN k.1) = k.1 ∧ (rN k.1).cps.toList.headD 0 = 114 := by decide +kernel
theorem tN_all : ∀ k : Fin 61, (isNameS (tN k.1) && !isOpS (tN k.1)) = true ∧ (tN k.1).length ≤ 100 ∧ PyData.strOk (tN k.1) = true ∧ digV (tN k.1) = k.1 ∧ (tN k.1).cps.toList.headD 0 = 116 := by decide +kernel
theorem rN_inj {i j : Nat} (hi : i ≤ 60) (hj : j ≤ 60) (h : rN i = rN j) : i = j := by
  have a := (rN_all ⟨i, by omega⟩).2.2.2.1
  have b := (rN_all ⟨j, by omega⟩).2.2.2.1
  have a : digV (rN i) = i := a
  have b : digV (rN j) = j := b
  rw [← a, ← b, h]
theorem tN_inj {i j : Nat} (hi : i ≤ 60) (hj : j ≤ 60) (h : tN i = tN j) : i = j := by
  have a := (tN_all ⟨i, by omega⟩).2.2.2.1
  have b := (tN_all ⟨j, by omega⟩).2.2.2.1
  have a : digV (tN i) = i := a
  have b : digV (tN j) = j := b
  rw [← a, ← b, h]
theorem rt_ne {i j : Nat} (hi : i ≤ 60) (hj : j ≤ 60) (h : rN i = tN j) : False := by
  have a := (rN_all ⟨i, by omega⟩).2.2.2.2
  have b := (tN_all ⟨j, by omega⟩).2.2.2.2
  have a : (rN i).cps.toList.headD 0 = 114 := a
  have b : (tN j).cps.toList.headD 0 = 116 := b
  rw [h, b] at a
  cases a
/-! ### the text -/
def formOf (b : BK) (s : ST) : D := match b.find s.nm with
  | some d => d.2.2
  | none => .non
def insR (b : BK) : List Str := (List.range b.r).map rN
def holdN (b : BK) (code : List ST) : Nat → List Str
  | 0 => insR b
  | i + 1 => match code[i]? with
    | some s => (holdN b code i).set s.tg.toNat (tN i)
    | none => holdN b code i
def envF (s : ST) (hs : List Str) (i : Nat) : Str → Option D := fun n => if n = "k" then some (wdD s.wd) else if n = "a" ∧ 0 < i then some (.str (hs.getD (s.src.getD 0 0).toNat "")) else if n = "b" ∧ 1 < i then some (.str (hs.getD (s.src.getD 1 0).toNat "")) else none
def letsN (b : BK) (code : List ST) : Nat → List (Str × D)
  | 0 => []
  | i + 1 => match code[i]? with
    | some s => letsN b code i ++ [(tN i, Rd.putF (envF s (holdN b code i) s.src.length) (formOf b s))]
    | none => letsN b code i
def codeTX (b : BK) (code : List ST) (ends : List Nat) : TX := ⟨b.w, insR b, [], letsN b code code.length, ends.map fun r => (r, .str ((holdN b code code.length).getD r ""))⟩
section
variable {b : BK} {code : List ST}
theorem holdN_succ {i : Nat} {s : ST} (h : code[i]? = some s) : holdN b code (i + 1) = (holdN b code i).set s.tg.toNat (tN i) := by simp only [holdN, h]
theorem letsN_succ {i : Nat} {s : ST} (h : code[i]? = some s) : letsN b code (i + 1) = letsN b code i ++ [(tN i, Rd.putF (envF s (holdN b code i) s.src.length) (formOf b s))] := by simp only [letsN, h]
theorem insR_len : (insR b).length = b.r := by unfold insR; simp
theorem holdN_len : ∀ i, (holdN b code i).length = b.r
  | 0 => insR_len
  | i + 1 => by
    simp only [holdN]
    split
    · rw [List.length_set, holdN_len i]
    · exact holdN_len i
theorem letsN_len : ∀ i, i ≤ code.length → (letsN b code i).length = i
  | 0, _ => rfl
  | i + 1, h => by
    rw [letsN_succ (getE (by omega)), List.length_append, letsN_len i (by omega)]; rfl
theorem letsN_take : ∀ n, n ≤ code.length → ∀ i, i ≤ n → (letsN b code n).take i = letsN b code i
  | 0, _, i, h => by
    have : i = 0 := by omega
    subst this; rfl
  | n + 1, hn, i, h => by
    by_cases e : i = n + 1
    · subst e
      have := letsN_len (b := b) (n + 1) hn
      exact List.take_of_length_le (Nat.le_of_eq this)
    · rw [letsN_succ (getE (by omega)), List.take_append_of_le_length (by rw [letsN_len n (by omega)]; omega)]
      exact letsN_take n (by omega) i (by omega)
theorem letsN_at {i : Nat} {s : ST} (h : code[i]? = some s) : (letsN b code code.length)[i]? = some (tN i, Rd.putF (envF s (holdN b code i) s.src.length) (formOf b s)) := by
  have hi := lt_at h
  have h1 := letsN_take (b := b) code.length (Nat.le_refl _) (i + 1) (by omega)
  have h2 : ((letsN b code code.length).take (i + 1))[i]? = (letsN b code code.length)[i]? := List.getElem?_take_of_lt (by omega)
  rw [← h2, h1, letsN_succ h, List.getElem?_append_right (by rw [letsN_len i (by omega)]; omega), letsN_len i (by omega), Nat.sub_self]
  rfl
theorem letsN_names : ∀ i, i ≤ code.length → (letsN b code i).map Prod.fst = (List.range i).map tN
  | 0, _ => rfl
  | i + 1, h => by
    rw [letsN_succ (getE (by omega)), List.map_append, letsN_names i (by omega), List.range_succ, List.map_append]; rfl
theorem known_eq {ends : List Nat} {i : Nat} (h : i ≤ code.length) : (codeTX b code ends).known i = insR b ++ (List.range i).map tN := by
  unfold TX.known codeTX
  show insR b ++ ((letsN b code code.length).take i).map Prod.fst = _
  rw [letsN_take _ (Nat.le_refl _) i h, letsN_names i h]
theorem hold_known (i : Nat) : ∀ x ∈ holdN b code i, x ∈ insR b ∨ ∃ j, j < i ∧ x = tN j := by
  induction i with
  | zero => exact fun x hx => .inl hx
  | succ i ih =>
    intro x hx
    simp only [holdN] at hx
    split at hx
    · rcases List.mem_or_eq_of_mem_set hx with hx | rfl
      · rcases ih x hx with h | ⟨j, hj, e⟩
        · exact .inl h
        · exact .inr ⟨j, by omega, e⟩
      · exact .inr ⟨i, by omega, rfl⟩
    · rcases ih x hx with h | ⟨j, hj, e⟩
      · exact .inl h
      · exact .inr ⟨j, by omega, e⟩
theorem getD_mem {α : Type} {l : List α} {i : Nat} {d : α} (h : i < l.length) : l.getD i d ∈ l := by
  rw [List.getD_eq_getElem?_getD, List.getElem?_eq_getElem h]
  exact List.getElem_mem h
theorem hold_in (ok : b.Ok) {i r : Nat} (hr : r < b.r) : (holdN b code i).getD r "" ∈ insR b ++ (List.range i).map tN := by
  have hm : (holdN b code i).getD r "" ∈ holdN b code i := getD_mem (by rw [holdN_len]; exact hr)
  rcases hold_known i _ hm with h | ⟨j, hj, e⟩
  · exact List.mem_append.mpr (.inl h)
  · rw [e]; exact List.mem_append.mpr (.inr (List.mem_map.mpr ⟨j, List.mem_range.mpr hj, rfl⟩))
end
/-! ### formulas put in -/
mutual
theorem wf_put {w : Nat} {nms ms : List Str} {σ : Str → Option D} : ∀ d : D, wfD w nms d = true → (∀ n ∈ lnamesD d, wfD w ms ((σ n).getD (.str n)) = true) → wfD w ms (Rd.putF σ d) = true
  | .int i, h, _ => by simpa only [wfD, Rd.putF] using h
  | .str s, h, q => by simp only [Rd.putF]; exact q s (by simp [lnamesD])
  | .tup ds, h, q => by
    obtain ⟨o, t, rfl, hl, ht, _⟩ := op_inv h
    have h2 : wfDs w nms t = true := by
      simp only [wfD, opOf_of] at h
      exact (Bool.and_eq_true_iff.mp h).2
    simp only [Rd.putF, wfD, opOf_of]
    rw [wf_puts t h2 (fun s hs => q s (by simpa only [lnamesD] using hs)), putFs_map, List.length_map, hl]
    simp
  | .non, h, _ => by simp [wfD] at h
  | .bl _, h, _ => by simp [wfD] at h
  | .ref _, h, _ => by simp [wfD] at h
  | .ty _, h, _ => by simp [wfD] at h
  | .kd _, h, _ => by simp [wfD] at h
  | .fl _, h, _ => by simp [wfD] at h
theorem wf_puts {w : Nat} {nms ms : List Str} {σ : Str → Option D} : ∀ t : List D, wfDs w nms t = true → (∀ n ∈ lnamesDs t, wfD w ms ((σ n).getD (.str n)) = true) → wfDs w ms (putFs σ t) = true
  | [], _, _ => by simp [wfDs, putFs]
  | d :: t, h, q => by
    simp only [wfDs, putFs, Bool.and_eq_true] at h ⊢
    exact ⟨wf_put d h.1 fun s hs => q s (by simp [lnamesDs, hs]), wf_puts t h.2 fun s hs => q s (by simp [lnamesDs, hs])⟩
end
mutual
theorem ev_put {w : Nat} {nms : List Str} {σ : Str → Option D} {ρ ρ' : Str → Nat} : ∀ d : D, wfD w nms d = true → (∀ n ∈ lnamesD d, ρ' n = evD w ρ ((σ n).getD (.str n))) → evD w ρ (Rd.putF σ d) = evD w ρ' d
  | .int i, h, _ => by simp only [evD, Rd.putF]
  | .str s, h, q => by simp only [Rd.putF]; rw [← q s (by simp [lnamesD])]; simp only [evD]
  | .tup ds, h, q => by
    obtain ⟨o, t, rfl, hl, ht, _⟩ := op_inv h
    have h2 : wfDs w nms t = true := by
      simp only [wfD, opOf_of] at h
      exact (Bool.and_eq_true_iff.mp h).2
    simp only [Rd.putF, evD, opOf_of]
    rw [ev_puts t h2 (fun s hs => q s (by simpa only [lnamesD] using hs))]
  | .non, h, _ => by simp [wfD] at h
  | .bl _, h, _ => by simp [wfD] at h
  | .ref _, h, _ => by simp [wfD] at h
  | .ty _, h, _ => by simp [wfD] at h
  | .kd _, h, _ => by simp [wfD] at h
  | .fl _, h, _ => by simp [wfD] at h
theorem ev_puts {w : Nat} {nms : List Str} {σ : Str → Option D} {ρ ρ' : Str → Nat} : ∀ t : List D, wfDs w nms t = true → (∀ n ∈ lnamesDs t, ρ' n = evD w ρ ((σ n).getD (.str n))) → evDs w ρ (putFs σ t) = evDs w ρ' t
  | [], _, _ => by simp [evDs, putFs]
  | d :: t, h, q => by
    simp only [wfDs, Bool.and_eq_true] at h
    simp only [evDs, putFs]
    rw [ev_put d h.1 fun s hs => q s (by simp [lnamesDs, hs]), ev_puts t h.2 fun s hs => q s (by simp [lnamesDs, hs])]
end
mutual
theorem dp_put {w : Nat} {nms : List Str} {σ : Str → Option D} (hσ : ∀ n d, σ n = some d → depthD d = 0 ∧ sizeD d = 1) : ∀ d : D, wfD w nms d = true → depthD (Rd.putF σ d) = depthD d ∧ sizeD (Rd.putF σ d) = sizeD d
  | .int i, h => by simp only [Rd.putF]; exact ⟨trivial, trivial⟩
  | .str s, h => by
    simp only [Rd.putF]
    cases e : σ s with
    | none => exact ⟨rfl, rfl⟩
    | some d => simp only [Option.getD_some, depthD, sizeD]; exact hσ s d e
  | .tup ds, h => by
    obtain ⟨o, t, rfl, hl, ht, _⟩ := op_inv h
    have h2 : wfDs w nms t = true := by
      simp only [wfD, opOf_of] at h
      exact (Bool.and_eq_true_iff.mp h).2
    have := dp_puts hσ t h2
    simp only [Rd.putF, depthD, sizeD]
    rw [this.1, this.2]; exact ⟨rfl, rfl⟩
  | .non, h => by simp [wfD] at h
  | .bl _, h => by simp [wfD] at h
  | .ref _, h => by simp [wfD] at h
  | .ty _, h => by simp [wfD] at h
  | .kd _, h => by simp [wfD] at h
  | .fl _, h => by simp [wfD] at h
theorem dp_puts {w : Nat} {nms : List Str} {σ : Str → Option D} (hσ : ∀ n d, σ n = some d → depthD d = 0 ∧ sizeD d = 1) : ∀ t : List D, wfDs w nms t = true → depthDs (putFs σ t) = depthDs t ∧ sizeDs (putFs σ t) = sizeDs t
  | [], _ => ⟨rfl, rfl⟩
  | d :: t, h => by
    simp only [wfDs, Bool.and_eq_true] at h
    have h1 := dp_put hσ d h.1
    have h2 := dp_puts hσ t h.2
    simp only [putFs, depthDs, sizeDs]
    rw [h1.1, h1.2, h2.1, h2.2]; exact ⟨rfl, rfl⟩
end
theorem wdD_flat (o : Option Int) : depthD (wdD o) = 0 ∧ sizeD (wdD o) = 1 := by cases o <;> exact ⟨by simp [wdD, depthD], by simp [wdD, sizeD]⟩
theorem envF_flat (s : ST) (hs : List Str) (i : Nat) : ∀ n d, envF s hs i n = some d → depthD d = 0 ∧ sizeD d = 1 := fun n d h => by
  unfold envF at h
  split at h
  · cases h; exact wdD_flat _
  · split at h
    · cases h; exact ⟨by simp [depthD], by simp [sizeD]⟩
    · split at h
      · cases h; exact ⟨by simp [depthD], by simp [sizeD]⟩
      · cases h
/-- what the names of a deed's formula stand for -/
theorem env_cases {b : BK} (ok : b.Ok) {s : ST} {d : Str × Nat × D} (f : StepF b s d) (hs : List Str) {n : Str} (hn : n ∈ lnamesD d.2.2) :
    (n = "a" ∧ ∃ x : Int, s.src[0]? = some x ∧ envF s hs s.src.length n = some (.str (hs.getD x.toNat ""))) ∨ (n = "b" ∧ ∃ x : Int, s.src[1]? = some x ∧ envF s hs s.src.length n = some (.str (hs.getD x.toNat ""))) ∨ (n = "k" ∧ ∃ x : Nat, s.wd = some (x : Int) ∧ x ∈ b.words ∧ envF s hs s.src.length n = some (.int x)) := by
  have hab := wf_lnames _ (ok.fm d f.mem).1 n hn
  have hsl := f.sl
  unfold srcN at hsl
  unfold abk at hab
  simp only [List.mem_cons, List.not_mem_nil, or_false] at hab
  have gd : ∀ i : Nat, i < s.src.length → ∃ x : Int, s.src[i]? = some x ∧ s.src.getD i 0 = x := fun i h => ⟨_, getE h, src_at (getE h)⟩
  rcases hab with rfl | rfl | rfl
  · have ha : hasA d.2.2 = true := decide_eq_true ((mem_lnames _ _).mpr hn)
    rw [ha] at hsl
    have h0 : 0 < s.src.length := by simp at hsl; omega
    obtain ⟨x, h1, h2⟩ := gd 0 h0
    refine .inl ⟨rfl, x, h1, ?_⟩
    unfold envF
    rw [if_neg (by decide), if_pos ⟨rfl, h0⟩, h2]
  · have hb : hasB d.2.2 = true := decide_eq_true ((mem_lnames _ _).mpr hn)
    have ha := ok.ba d f.mem hb
    rw [ha, hb] at hsl
    have h0 : 1 < s.src.length := by simp at hsl; omega
    obtain ⟨x, h1, h2⟩ := gd 1 h0
    refine .inr (.inl ⟨rfl, x, h1, ?_⟩)
    unfold envF
    rw [if_neg (by decide), if_neg (fun z => absurd z.1 (by decide)), if_pos ⟨rfl, h0⟩, h2]
  · have hk : hasK d.2.2 = true := decide_eq_true ((mem_lnames _ _).mpr hn)
    rw [f.hk] at hk
    cases hw : s.wd with
    | none => rw [hw] at hk; cases hk
    | some v =>
      obtain ⟨x, hx, rfl⟩ := List.mem_map.mp (f.wd v hw)
      refine .inr (.inr ⟨rfl, x, rfl, hx, ?_⟩)
      unfold envF
      rw [if_pos rfl, hw]; rfl
theorem formOf_eq {b : BK} {s : ST} {d : Str × Nat × D} (f : StepF b s d) : formOf b s = d.2.2 := by unfold formOf; rw [f.find]
/-! ### the text is valid -/
theorem insR_nd {b : BK} (ok : b.Ok) : (insR b).Nodup := by
  unfold insR
  have r4 := ok.r4
  refine List.Pairwise.map _ (fun a b hab => hab) (List.Pairwise.imp_of_mem (R := fun a b : Nat => a < b) (fun {a c} ha hc hac e => ?_) List.pairwise_lt_range)
  have h1 := List.mem_range.mp ha
  have h2 := List.mem_range.mp hc
  have := rN_inj (by omega) (by omega) e
  omega
theorem insR_good {b : BK} (ok : b.Ok) : ∀ s ∈ insR b, goodN s ∧ PyData.strOk s = true := fun s hs => by
  obtain ⟨i, hi, rfl⟩ := List.mem_map.mp hs
  have h1 := List.mem_range.mp hi
  have r4 := ok.r4
  have := rN_all ⟨i, by omega⟩
  exact ⟨⟨this.1, this.2.1⟩, this.2.2.1⟩
theorem tN_new {b : BK} (ok : b.Ok) {i : Nat} (hi : i ≤ 60) : ¬ tN i ∈ insR b ++ (List.range i).map tN := fun h => by
  have r4 := ok.r4
  rcases List.mem_append.mp h with h | h
  · obtain ⟨j, hj, e⟩ := List.mem_map.mp h
    have := List.mem_range.mp hj
    exact rt_ne (by omega) hi e
  · obtain ⟨j, hj, e⟩ := List.mem_map.mp h
    have := List.mem_range.mp hj
    have := tN_inj (by omega) hi e
    omega
theorem let_ok {b : BK} (ok : b.Ok) {code : List ST} {i : Nat} {s : ST} (hs : isStep b s = true) : okF b.w (insR b ++ (List.range i).map tN) (Rd.putF (envF s (holdN b code i) s.src.length) (formOf b s)) := by
  obtain ⟨d, f⟩ := step_inv hs
  rw [formOf_eq f]
  have fm := ok.fm d f.mem
  have hp : ∀ x : Nat, x < 2 ^ b.w → wfD b.w (insR b ++ (List.range i).map tN) (.int (x : Nat)) = true := fun x hx => by
    simp only [wfD]
    rw [decide_eq_true (by omega : (0 : Int) ≤ (x : Int)), decide_eq_true (by exact_mod_cast hx)]; rfl
  have gs : ∀ j (x : Int), s.src[j]? = some x → wfD b.w (insR b ++ (List.range i).map tN) (.str ((holdN b code i).getD x.toNat "")) = true := fun j x hx => by
    have := f.src x (mem_at hx)
    simp only [wfD]
    exact decide_eq_true (hold_in ok (by omega))
  refine ⟨wf_put _ fm.1 fun n hn => ?_, ?_, ?_⟩
  · rcases env_cases ok f (holdN b code i) hn with ⟨_, x, h1, e⟩ | ⟨_, x, h1, e⟩ | ⟨_, x, h1, h2, e⟩
    · rw [e]; exact gs 0 x h1
    · rw [e]; exact gs 1 x h1
    · rw [e]; exact hp x (ok.wlt x h2)
  · rw [(dp_put (envF_flat s _ _) _ fm.1).1]; exact fm.2.1
  · rw [(dp_put (envF_flat s _ _) _ fm.1).2]; have := fm.2.2; omega
theorem codeTX_ok {b : BK} (ok : b.Ok) {code : List ST} {ends : List Nat} (hc : code.length ≤ 60) (hst : ∀ s ∈ code, isStep b s = true) (he : EndsOk b.r ends) : (codeTX b code ends).Ok := by
  have r4 := ok.r4
  have hl := he.len
  have hll : (codeTX b code ends).lets.length = code.length := letsN_len _ (Nat.le_refl _)
  exact
  { w1 := ok.w1
    w4 := ok.w4
    nd := insR_nd ok
    nm := fun s hs => (insR_good ok s hs).1
    i4 := by show (insR b).length ≤ 4; rw [insR_len]; exact r4
    bits := by show b.w * (insR b).length ≤ 8; rw [insR_len]; exact ok.bits
    n2 := by show 0 ≤ 2; decide
    nf := fun d hd => by cases hd
    l60 := by rw [hll]; exact hc
    ln := fun i p hp => by
      have hi : i < code.length := by have := lt_at hp; rw [hll] at this; exact this
      have hat := letsN_at (b := b) (getE hi)
      have hp : (letsN b code code.length)[i]? = some p := hp
      rw [hat] at hp
      cases hp
      rw [known_eq (by omega)]
      have := tN_all ⟨i, by omega⟩
      exact ⟨⟨this.1, this.2.1⟩, tN_new ok (by omega), let_ok ok (hst _ (List.getElem_mem hi))⟩
    o4 := by show (ends.map _).length ≤ 4; rw [List.length_map]; omega
    on := fun i p hp => by
      have hp : (ends.map fun r => (r, D.str ((holdN b code code.length).getD r "")))[i]? = some p := hp
      rw [List.getElem?_map] at hp
      obtain ⟨r, hr, rfl⟩ := Option.map_eq_some_iff.mp hp
      have := he.lt r (mem_at hr)
      refine ⟨by show r ≤ 3; omega, ?_, by show 0 ≤ 6; decide, by show 1 ≤ 15; decide⟩
      rw [hll, known_eq (Nat.le_refl _)]
      simp only [wfD]
      exact decide_eq_true (hold_in ok this)
    oo := fun i p q hp hq => by
      have hp : (ends.map fun r => (r, D.str ((holdN b code code.length).getD r "")))[i]? = some p := hp
      have hq : (ends.map fun r => (r, D.str ((holdN b code code.length).getD r "")))[i + 1]? = some q := hq
      rw [List.getElem?_map] at hp hq
      obtain ⟨r, hr, rfl⟩ := Option.map_eq_some_iff.mp hp
      obtain ⟨r2, hr2, rfl⟩ := Option.map_eq_some_iff.mp hq
      obtain ⟨h1, h2⟩ := List.getElem?_eq_some_iff.mp hr
      obtain ⟨h3, h4⟩ := List.getElem?_eq_some_iff.mp hr2
      have := List.pairwise_iff_getElem.mp he.asc i (i + 1) h1 h3 (by omega)
      rw [h2, h4] at this
      exact this }
/-! ### what the text means -/
theorem hold_sem {b : BK} (ok : b.Ok) {code : List ST} {ends xs : List Nat} (hc : code.length ≤ 60) (hst : ∀ s ∈ code, isStep b s = true) (so : StOk b xs) : ∀ i, i ≤ code.length → ∀ r, r < b.r → rhoN (codeTX b code ends) xs i ((holdN b code i).getD r "") = (runS b (code.take i) xs).getD r 0 := by
  have r4 := ok.r4
  intro i
  induction i with
  | zero =>
    intro _ r hr
    have h1 : (insR b)[r]? = some (rN r) := by unfold insR; rw [List.getElem?_map, range_get hr]; rfl
    have h2 : xs[r]? = some (xs.getD r 0) := getD_at (by rw [so.len]; exact hr)
    have e1 : (holdN b code 0).getD r "" = rN r := by
      show (insR b).getD r "" = rN r
      rw [List.getD_eq_getElem?_getD, h1]; rfl
    rw [e1]
    exact rho0_at (insR_nd ok) h1 h2
  | succ i ih =>
    intro hi r hr
    have hat := getE (show i < code.length by omega)
    have hs := hst _ (List.getElem_mem (show i < code.length by omega))
    generalize code[i] = s at hat hs
    obtain ⟨d, f⟩ := step_inv hs
    have ih := ih (by omega)
    rw [rhoN_succ (t := codeTX b code ends) (letsN_at hat), holdN_succ hat, take_snoc hat, runS_snoc]
    have hrun := run_ok ok (code := code.take i) (st := xs) (fun y hy => hst y (List.mem_of_mem_take hy)) so
    generalize runS b (code.take i) xs = st at ih hrun ⊢
    have tr := f.tr
    have t0 := f.t0
    unfold stepAfter
    have hl := holdN_len (b := b) (code := code) i
    by_cases e : r = s.tg.toNat
    · have e1 : ((holdN b code i).set s.tg.toNat (tN i)).getD r "" = tN i := by rw [e, List.getD_eq_getElem?_getD, List.getElem?_set_self (by rw [hl]; omega)]; rfl
      have e2 : (st.set s.tg.toNat (stepWord b s st)).getD r 0 = stepWord b s st := by rw [e, List.getD_eq_getElem?_getD, List.getElem?_set_self (by rw [hrun.len]; omega)]; rfl
      rw [e1, e2]
      show (if tN i = tN i then evD b.w (rhoN (codeTX b code ends) xs i) (Rd.putF (envF s (holdN b code i) s.src.length) (formOf b s)) else _) = _
      rw [if_pos rfl, formOf_eq f]
      unfold stepWord
      rw [f.find]
      refine ev_put _ (ok.fm d f.mem).1 fun n hn => ?_
      rcases env_cases ok f (holdN b code i) hn with ⟨rfl, x, h1, e⟩ | ⟨rfl, x, h1, e⟩ | ⟨rfl, x, h1, h2, e⟩
      · have hx := f.src x (mem_at h1)
        rw [e]
        show rhoOf s st "a" = evD b.w _ (.str _)
        simp only [evD]
        rw [ih x.toNat (by omega)]
        unfold rhoOf
        rw [if_neg (by decide), if_pos rfl, src_at h1]
      · have hx := f.src x (mem_at h1)
        rw [e]
        show rhoOf s st "b" = evD b.w _ (.str _)
        simp only [evD]
        rw [ih x.toNat (by omega)]
        unfold rhoOf
        rw [if_neg (by decide), if_neg (by decide), if_pos rfl, src_at h1]
      · rw [e]
        show rhoOf s st "k" = evD b.w _ (.int x)
        simp only [evD]
        unfold rhoOf
        rw [if_pos rfl, h1]; rfl
    · have e1 : ((holdN b code i).set s.tg.toNat (tN i)).getD r "" = (holdN b code i).getD r "" := by rw [List.getD_eq_getElem?_getD, List.getElem?_set_ne (fun z => e z.symm), ← List.getD_eq_getElem?_getD]
      have e2 : (st.set s.tg.toNat (stepWord b s st)).getD r 0 = st.getD r 0 := by rw [List.getD_eq_getElem?_getD, List.getElem?_set_ne (fun z => e z.symm), ← List.getD_eq_getElem?_getD]
      rw [e1, e2]
      have hne : ¬ (holdN b code i).getD r "" = tN i := fun z => tN_new ok (i := i) (by omega) (by rw [← z]; exact hold_in ok hr)
      show (if (holdN b code i).getD r "" = tN i then _ else rhoN (codeTX b code ends) xs i ((holdN b code i).getD r "")) = _
      rw [if_neg hne]
      exact ih r hr
/-- the outputs of a code's text -/
theorem outs_sem {b : BK} (ok : b.Ok) {code : List ST} {ends xs : List Nat} (hc : code.length ≤ 60) (hst : ∀ s ∈ code, isStep b s = true) (he : EndsOk b.r ends) (so : StOk b xs) :
    outsD (codeTX b code ends) xs (codeTX b code ends).outs.length = ends.map fun r => .tup [.int (r : Nat), .int ((runS b code xs).getD r 0 : Nat)] := by
  unfold outsD
  rw [List.take_length]
  show (ends.map fun r => (r, D.str ((holdN b code code.length).getD r ""))).map _ = _
  rw [List.map_map]
  refine List.map_congr_left fun r hr => ?_
  have hll : (codeTX b code ends).lets.length = code.length := letsN_len _ (Nat.le_refl _)
  have := hold_sem (ends := ends) ok hc hst so code.length (Nat.le_refl _) r (he.lt r hr)
  rw [List.take_length] at this
  show D.tup [.int (r : Nat), .int (evD b.w (rhoN (codeTX b code ends) xs (codeTX b code ends).lets.length) (.str ((holdN b code code.length).getD r "")) : Nat)] = _
  rw [hll]
  simp only [evD]
  rw [this]
theorem row_of {b : BK} {code : List ST} {ends xs : List Nat} (so : StOk b xs) : RowOk (codeTX b code ends) xs := ⟨by show xs.length = (insR b).length; rw [insR_len, so.len], so.lt⟩
end Rv

set_option Elab.async false
set_option linter.all false
set_option autoImplicit false
set_option maxRecDepth 100000
set_option maxHeartbeats 4000000
/-! readings for k78: the text of a code -/
namespace Rv
open PySem PySem.Spec PyProof.Rows L2 DH Bd Rd Rk
local macro_rules | `(tactic| walk_at "if") => `(tactic| first | (refine ⟨fun _ => ?_, fun hc => absurd hc (by decide)⟩) | (refine ⟨fun hc => absurd hc (by decide), fun _ => ?_⟩))
/-! ### the loop's bodies -/
def b_ct4 (cl : CF) (c_Text : Addr) (s_Text : DSp) : DS := dRet (dMake c_Text s_Text (dCons (dFld cl "width" (dVar 0)) (dCons (dVar 3) (dCons (dLst (dNil)) (dCons (dVar 6) (dCons (dLc (dIter (dVar 2)) (.nm 4) dYes (dTup (dCons (dVar 4) (dCons (dOp oIx (dVar 5) (dVar 4)) (dNil)))) [4]) (dNil)))))))
def b_ctB (c_Book : Addr) (s_Bookdeed s_put_in : DSp) : DS := dSeq (dSetIx (dFs "t" (dVar 7)) (dVar 5) (dVar 11)) (dDrop (dApp (dVar 6) (dTup (dCons (dOp oIx (dVar 5) (dVar 11)) (dCons (dCall s_put_in (dCons (dOp oIx (dMeth c_Book "deed" s_Bookdeed (dVar 0) (dCons (dVar 8) (dNil))) (dC (.int 2))) (dCons (dVar 12) (dNil)))) (dNil))))))
def b_ctA (c_Book : Addr) (s_Bookdeed s_put_in : DSp) : DS := dSeq (dAsg (dDisp [(dC (.str "k"), dVar 10)]) (.nm 12)) (dSeq (dFor (dZip (dCons (dC (.str "ab")) (dCons (dVar 9) (dNil)))) (.tp [13, 14]) (dSetIx (dOp oIx (dVar 5) (dVar 14)) (dVar 12) (dVar 13))) (b_ctB c_Book s_Bookdeed s_put_in))
def b_ct1 (cl : CF) (c_Text : Addr) (s_Text : DSp) (c_Book : Addr) (s_Bookdeed s_put_in : DSp) : DS := dSeq (dAsg (dLc (dRng1 (dCons (dFld cl "registers" (dVar 0)) (dNil))) (.nm 4) dYes (dFs "r" (dVar 4)) [4]) (.nm 3)) (dSeq (dAsg (dL oList (dCons (dVar 3) (dNil))) (.nm 5)) (dSeq (dAsg (dLst (dNil)) (.nm 6)) (dSeq (dFor (dEnum (dCons (dVar 1) (dNil))) (.nt 7 [8, 9, 10, 11]) (b_ctA c_Book s_Bookdeed s_put_in)) (b_ct4 cl c_Text s_Text))))
abbrev sL (l : List Str) : List D := l.map D.str
theorem strs_atI {l : List Str} {x : Int} (h0 : 0 ≤ x) (h1 : x < l.length) : atI (sL l) x = some (.str (l.getD x.toNat "")) := by
  obtain ⟨n, rfl⟩ := Int.eq_ofNat_of_zero_le h0
  have hn : n < l.length := by omega
  have : (sL l)[n]? = some (.str (l.getD n "")) := by unfold sL; rw [List.getElem?_map, List.getD_eq_getElem?_getD, List.getElem?_eq_getElem hn]; rfl
  exact atI_nat this
theorem ixN_int {n : Nat} {x : Int} (h0 : 0 ≤ x) (h1 : x < n) : ixN n x = some x.toNat := by
  obtain ⟨m, rfl⟩ := Int.eq_ofNat_of_zero_le h0
  exact ixN_nat (by omega)
/-- the dict of a step's names after i letters -/
structure EnvH (M : Mm) (e : Addr) (s : ST) (hs : List Str) (i : Nat) : Prop where
  ex : ∃ kvs, M e = some (.dk kvs) ∧ kvs.length ≤ 1 + i ∧ (fun n : Str => valD kvs (.inr n)) = envF s hs i
theorem EnvH.put {M M' : Mm} {e : Addr} {s : ST} {hs : List Str} {i : Nat} {kvs : List (Key × D)} (hi : i < 2) (h2 : kvs.length ≤ 1 + i) (h3 : (fun n : Str => valD kvs (.inr n)) = envF s hs i) (hm : M' e = some (.dk (putD kvs (.inr (ltr i)) (.str (hs.getD (s.src.getD i 0).toNat ""))))) : EnvH M' e s hs (i + 1) := by
  refine ⟨_, hm, by have := putD_len kvs (.inr (ltr i)) (.str (hs.getD (s.src.getD i 0).toNat "")); omega, ?_⟩
  funext n
  have h4 := congrFun h3 n
  have h4 : valD kvs (.inr n) = envF s hs i n := h4
  show valD (putD kvs (.inr (ltr i)) _) (.inr n) = _
  rw [putD_val, h4]
  have ka : ("k" : Str) ≠ "a" := by decide
  have kb : ("k" : Str) ≠ "b" := by decide
  have ab : ("a" : Str) ≠ "b" := by decide
  unfold envF
  match i, hi with
  | 0, _ =>
    show (if Sum.inr n = (Sum.inr ("a" : Str) : Key) then some (D.str (hs.getD (s.src.getD 0 0).toNat "")) else _) = _
    by_cases ek : n = "k"
    · subst ek
      rw [if_neg (fun z => ka (Sum.inr.inj z)), if_pos rfl, if_pos rfl]
    · rw [if_neg ek, if_neg ek]
      by_cases ea : n = "a"
      · subst ea
        rw [if_pos rfl, if_pos ⟨rfl, by decide⟩]
      · rw [if_neg (fun z => ea (Sum.inr.inj z)), if_neg (fun z => ea z.1), if_neg (fun z => absurd z.2 (by decide)), if_neg (fun z => ea z.1), if_neg (fun z => absurd z.2 (by decide))]
  | 1, _ =>
    show (if Sum.inr n = (Sum.inr ("b" : Str) : Key) then some (D.str (hs.getD (s.src.getD 1 0).toNat "")) else _) = _
    by_cases ek : n = "k"
    · subst ek
      rw [if_neg (fun z => kb (Sum.inr.inj z)), if_pos rfl, if_pos rfl]
    · rw [if_neg ek, if_neg ek]
      by_cases ea : n = "a"
      · subst ea
        rw [if_neg (fun z => ab (Sum.inr.inj z)), if_pos ⟨rfl, by decide⟩, if_pos ⟨rfl, by decide⟩]
      · by_cases eb : n = "b"
        · subst eb
          rw [if_pos rfl, if_neg (fun z => ea z.1), if_pos ⟨rfl, by decide⟩]
        · rw [if_neg (fun z => eb (Sum.inr.inj z)), if_neg (fun z => ea z.1), if_neg (fun z => eb z.1), if_neg (fun z => ea z.1), if_neg (fun z => eb z.1)]
theorem envH_start {M : Mm} {e : Addr} {s : ST} {hs : List Str} (h : M e = some (.dk [(.inr "k", wdD s.wd)])) : EnvH M e s hs 0 := by
  refine ⟨_, h, by show 1 ≤ 1 + 0; decide, ?_⟩
  funext n
  show valD (putD [] (.inr "k") (wdD s.wd)) (.inr n) = envF s hs 0 n
  rw [putD_val]
  unfold envF
  by_cases e : n = "k"
  · subst e; rw [if_pos rfl, if_pos rfl]
  · rw [if_neg (fun z => e (Sum.inr.inj z)), if_neg e, if_neg (fun z => absurd z.2 (by decide)), if_neg (fun z => absurd z.2 (by decide))]; rfl
theorem EnvH.ext {M M' : Mm} {e : Addr} {s : ST} {hs : List Str} {i : Nat} (h : EnvH M e s hs i) (x : Ext M M') : EnvH M' e s hs i := let ⟨kvs, a, r⟩ := h.ex; ⟨kvs, x _ _ a, r⟩
section
variable {cl : CF} {CB CT a q p p2 p3 : Addr} {b : BK} {code : List ST} {ends : List Nat} {M : Mm} {D0 : DEnds}
abbrev EnvC (a q p p2 p3 : Addr) (ends : List Nat) (i : Int) (s : ST) (x4 x12 x13 x14 : Option D) : DEnv := [some (.ref a), some (.ref q), some (.tup (wds ends)), some (.ref p), x4, some (.ref p2), some (.ref p3), some (.int i), some (.str s.nm), some (.tup (s.src.map .int)), some (wdD s.wd), some (.int s.tg), x12, x13, x14]
/-- while the lets are made -/
structure CtI (p p2 p3 : Addr) (b : BK) (code : List ST) (i : Nat) (M M' : Mm) : Prop where
  x : Ext M M'
  m1 : M' p = some (.lst (sL (insR b)))
  m2 : M' p2 = some (.lst (sL (holdN b code i)))
  m3 : M' p3 = some (.lst (letD (letsN b code i)))
structure CtN (p p2 p3 : Addr) (M : Mm) : Prop where
  n1 : M p = none
  n2 : M p2 = none
  n3 : M p3 = none
  n12 : p ≠ p2
  n13 : p ≠ p3
  n23 : p2 ≠ p3
theorem r_ctB {M' : Mm} {i : Nat} {s : ST} {e : Addr} {x4 x13 x14 : Option D} (ok : b.Ok) (bm : BkM cl CB M a b) (hi : i < 60) (hat : code[i]? = some s) (hs : isStep b s = true) (N : CtN p p2 p3 M) (I : CtI p p2 p3 b code i M M') (he : EnvH M' e s (holdN b code i) s.src.length) (hne : M e = none) (ne2 : e ≠ p2) (ne3 : e ≠ p3)
    (k : ∀ M2 x4 x12 x13 x14, CtI p p2 p3 b code (i + 1) M M2 → D0.nx (EnvC a q p p2 p3 ends (i : Nat) s x4 x12 x13 x14) M2) : b_ctB CB (sp_deed cl CB) (sp_put_in 8) D0 (EnvC a q p p2 p3 ends (i : Nat) s x4 (some (.ref e)) x13 x14) M' := by
  obtain ⟨d, f⟩ := step_inv hs
  have t0 := f.t0
  have tr := f.tr
  have hl := holdN_len (b := b) (code := code) i
  have ti := tN_all ⟨i, by omega⟩
  refine ⟨_, rfl, log_small (by omega), Nat.le_of_lt (tolist (Nat.le_trans ti.2.1 (by decide))), ?_⟩
  refine .inl ⟨_, _, s.tg.toNat, I.m2, rfl, ixN_int t0 (by rw [List.length_map, hl]; exact tr), ?_⟩
  have es : (sL (holdN b code i)).set s.tg.toNat (.str (tN i)) = sL (holdN b code (i + 1)) := by rw [holdN_succ hat]; unfold sL; rw [List.map_set]
  have x1 : Ext M (updM M' p2 (.lst (sL (holdN b code (i + 1))))) := I.x.mut N.n2
  have m1 : updM M' p2 (.lst (sL (holdN b code (i + 1)))) p = some (.lst (sL (insR b))) := by rw [updM_ne N.n12]; exact I.m1
  have m2 : updM M' p2 (.lst (sL (holdN b code (i + 1)))) p2 = some (.lst (sL (holdN b code (i + 1)))) := updM_same
  have m3 : updM M' p2 (.lst (sL (holdN b code (i + 1)))) p3 = some (.lst (letD (letsN b code i))) := by rw [updM_ne N.n23.symm]; exact I.m3
  have he2 : EnvH (updM M' p2 (.lst (sL (holdN b code (i + 1))))) e s (holdN b code i) s.src.length := by
    obtain ⟨kvs, h1, h2⟩ := he.ex
    exact ⟨kvs, by rw [updM_ne ne2]; exact h1, h2⟩
  have es2 : (sL (holdN b code i)).set s.tg.toNat (.str (("t" : Str) ++ ((toString ((i : Nat) : Int) : String) : Str))) = sL (holdN b code (i + 1)) := es
  rw [es2]
  dsimp only
  generalize updM M' p2 (.lst (sL (holdN b code (i + 1)))) = M2 at x1 m1 m2 m3 he2 ⊢
  refine ⟨⟨_, m3⟩, ?_⟩
  have hnx : atI (sL (holdN b code (i + 1))) s.tg = some (.str (tN i)) := by
    have h1 : s.tg < ((holdN b code (i + 1)).length : Nat) := by rw [holdN_len]; exact tr
    rw [strs_atI t0 h1, holdN_succ hat, List.getD_eq_getElem?_getD, List.getElem?_set_self (by rw [hl]; omega)]; rfl
  refine .inl ⟨_, _, _, m2, rfl, hnx, ?_⟩
  have bm2 := bm.ext x1
  refine ⟨a, _, rfl, bm2.at_, rfl, ?_⟩
  refine ⟨a, b, s.nm, d, rfl, bm2, f.find, _, (rfl : atI _ 2 = some d.2.2), ?_⟩
  obtain ⟨kvs, k1, k2, k3⟩ := he2.ex
  have fm := ok.fm d f.mem
  refine ⟨d.2.2, e, kvs, rfl, wf_full 6 _ fm.1 fm.2.1, by omega, by omega, k1, fun M3 x3 => ?_⟩
  have hll := letsN_len (b := b) (code := code) i (by have := lt_at hat; omega)
  refine ⟨by show 2 ≤ sizeLine; decide, _, x3 _ _ m3, tolist (by rw [letD_len, hll]; omega), ?_⟩
  refine k _ _ _ _ _ ⟨(x1.trans x3).mut N.n3, by rw [updM_ne N.n13]; exact x3 _ _ m1, by rw [updM_ne N.n23]; exact x3 _ _ m2, ?_⟩
  rw [updM_same, letsN_succ hat, formOf_eq f, ← k3]
  unfold letD
  rw [List.map_append]; rfl
theorem r_ctA {M' : Mm} {i : Nat} {s : ST} {x4 x12 x13 x14 : Option D} (ok : b.Ok) (bm : BkM cl CB M a b) (hi : i < 60) (hat : code[i]? = some s) (hs : isStep b s = true) (N : CtN p p2 p3 M) (I : CtI p p2 p3 b code i M M')
    (k : ∀ M2 x4 x12 x13 x14, CtI p p2 p3 b code (i + 1) M M2 → D0.nx (EnvC a q p p2 p3 ends (i : Nat) s x4 x12 x13 x14) M2) : b_ctA CB (sp_deed cl CB) (sp_put_in 8) D0 (EnvC a q p p2 p3 ends (i : Nat) s x4 x12 x13 x14) M' := by
  obtain ⟨d, f⟩ := step_inv hs
  have hsl := f.sl
  have hn2 := srcN_le d.2.2
  refine fun e he => ⟨updM_same, [(.inr "k", wdD s.wd)], rfl, by show 1 ≤ 15; decide, ?_⟩
  have xe : Ext M' (updM (updM M' e (.dk [])) e (.dk (mergeD [] [(.inr "k", wdD s.wd)]))) := (Ext.new he).mut he
  have em : EnvH (updM (updM M' e (.dk [])) e (.dk (mergeD [] [(.inr "k", wdD s.wd)]))) e s (holdN b code i) 0 := envH_start updM_same
  generalize updM (updM M' e (.dk [])) e (.dk (mergeD [] [(.inr "k", wdD s.wd)])) = M1 at xe em ⊢
  have hMe := I.x.back he
  have ne2 : e ≠ p2 := fun z => by subst z; rw [I.m2] at he; cases he
  have ne3 : e ≠ p3 := fun z => by subst z; rw [I.m3] at he; cases he
  refine ⟨by decide +kernel, ?_⟩
  have hlen : (zipD (strD "ab") (s.src.map D.int)).length = s.src.length := by
    rw [zip_len, List.length_map]
    show min 2 s.src.length = _
    omega
  refine ⟨fun j E M2 => Ext M' M2 ∧ EnvH M2 e s (holdN b code i) j ∧ ∃ x13 x14 : Option D, E = EnvC a q p p2 p3 ends (i : Nat) s x4 (some (.ref e)) x13 x14, ⟨xe, em, x13, x14, rfl⟩, fun _ _ _ _ => trivial, ?_, ?_⟩
  · rintro j E M2 dd hd ⟨hx, em, y13, y14, rfl⟩
    obtain ⟨u, v, h1, h2, rfl⟩ := zip_at hd
    have hi2 : j < 2 := lt_at h1
    have eu : u = .str (ltr j) := by
      match j, hi2 with
      | 0, _ => exact (Option.some.inj h1).symm
      | 1, _ => exact (Option.some.inj h1).symm
    subst eu
    rw [List.getElem?_map] at h2
    obtain ⟨x, hxs, rfl⟩ := Option.map_eq_some_iff.mp h2
    have hx0 := f.src x (mem_at hxs)
    refine ⟨rfl, ?_⟩
    refine .inl ⟨_, _, _, hx _ _ I.m2, rfl, strs_atI hx0.1 (by rw [holdN_len]; exact hx0.2), ?_⟩
    obtain ⟨kvs, k1, k2, k3⟩ := em.ex
    refine .inr ⟨kvs, .inr (ltr j), k1, rfl, tolist (by omega), hx.mut he, ?_, _, _, rfl⟩
    refine EnvH.put (M := M2) hi2 k2 k3 ?_
    rw [updM_same, src_at hxs]
  · rintro E M2 ⟨hx, em, y13, y14, rfl⟩
    rw [hlen] at em
    exact r_ctB ok bm hi hat hs N ⟨I.x.trans hx, hx _ _ I.m1, hx _ _ I.m2, hx _ _ I.m3⟩ em hMe ne2 ne3 k
theorem r_ct4 {M1 : Mm} {x4 x7 x8 x9 x10 x11 x12 x13 x14 : Option D} (hcl : ClT cl CT) (ok : b.Ok) (bm : BkM cl CB M a b) (hc : code.length ≤ 60) (hst : ∀ s ∈ code, isStep b s = true) (he : EndsOk b.r ends) (I : CtI p p2 p3 b code code.length M M1)
    (k : ∀ x M', M x = none → Ext M M' → TxM cl CT M' x (codeTX b code ends) → D0.rt (.ref x) M') : b_ct4 cl CT (sp_Text cl CT) D0 [some (.ref a), some (.ref q), some (.tup (wds ends)), some (.ref p), x4, some (.ref p2), some (.ref p3), x7, x8, x9, x10, x11, x12, x13, x14] M1 := by
  have bm1 := bm.ext I.x
  have r4 := ok.r4
  have el := he.len
  refine ⟨_, _, _, _, rfl, bm1.at_, bm1.cl _ (by simp), rfl, ?_⟩
  refine ⟨Nat.zero_le _, fun p4 hp4 => ?_⟩
  have x4 := Ext.new (o := .lst []) hp4
  have m4 : updM M1 p4 (.lst []) p4 = some (.lst []) := updM_same
  generalize updM M1 p4 (.lst []) = M2 at x4 m4 ⊢
  refine fun p5 hp5 => ⟨fun j acc M' => Ext M2 M' ∧ M' p5 = some (.lst acc) ∧ acc = outD ((ends.take j).map fun r => (r, D.str ((holdN b code code.length).getD r ""))), ⟨Ext.new hp5, updM_same, rfl⟩, fun _ _ _ _ => trivial, ?_, ?_⟩
  · rintro j acc M' d hd ⟨hx, hm, rfl⟩
    obtain ⟨r, hr, rfl⟩ := wds_at hd
    have hrl := he.lt r (mem_at hr)
    refine ⟨fun _ => ?_, fun hc => absurd hc (by decide)⟩
    refine .inl ⟨_, _, _, hx _ _ (x4 _ _ I.m2), rfl, strs_atI (by omega) (by rw [holdN_len]; omega), ?_⟩
    refine ⟨by show 2 ≤ sizeLine; decide, hm, tolist ?_, hx.mut hp5, updM_same, ?_⟩
    · rw [outD_len, List.length_map, List.length_take]; omega
    · rw [take_snoc hr, List.map_append]
      unfold outD
      rw [List.map_append]
      rfl
  · rintro acc M' ⟨hx, hm, rfl⟩
    rw [List.length_map, List.take_length] at hm
    refine fun x hxn => ?_
    have xn : Ext M' (updM M' x (.ins CT [])) := Ext.new hxn
    have x14 := x4.trans hx
    refine ⟨x, p, p4, p3, p5, codeTX b code ends, rfl, hcl, updM_same, xn _ _ (x14 _ _ I.m1), xn _ _ (hx _ _ m4), xn _ _ (x14 _ _ I.m3), xn _ _ hm, codeTX_ok ok hc hst he, fun M8 b8 tx => ⟨rfl, ?_⟩⟩
    have x0 := I.x.trans x14
    exact k x M8 (x0.back hxn) (Ext.but (x0.trans xn) b8 (x0.back hxn)) tx
theorem r_ct1 (hcl : ClT cl CT) (ok : b.Ok) (bm : BkM cl CB M a b) (hq : M q = some (.lst (stepsD code))) (hc : code.length ≤ 60) (hst : ∀ s ∈ code, isStep b s = true) (he : EndsOk b.r ends)
    (k : ∀ x M', M x = none → Ext M M' → TxM cl CT M' x (codeTX b code ends) → D0.rt (.ref x) M') : b_ct1 cl CT (sp_Text cl CT) CB (sp_deed cl CB) (sp_put_in 8) D0 [some (.ref a), some (.ref q), some (.tup (wds ends)), none, none, none, none, none, none, none, none, none, none, none, none] M := by
  have r4 := ok.r4
  refine ⟨_, _, _, _, rfl, bm.at_, bm.cl _ (by simp), rfl, ?_⟩
  refine ⟨by omega, by omega, fun p hp => ?_⟩
  refine ⟨fun i acc M' => Ext M M' ∧ M' p = some (.lst acc) ∧ acc = sL ((List.range i).map rN), ⟨Ext.new hp, updM_same, rfl⟩, fun _ _ _ _ => trivial, ?_, ?_⟩
  · rintro i acc M' d hd ⟨hx, hm, rfl⟩
    obtain ⟨hi, rfl⟩ := rng_at hd
    have hi : i < b.r := by have : i < (b.r : Int).toNat := hi; omega
    have ti := rN_all ⟨i, by omega⟩
    rw [Int.zero_add]
    refine ⟨fun _ => ⟨_, rfl, log_small (by omega), Nat.le_of_lt (tolist (Nat.le_trans ti.2.1 (by decide))), hm, tolist (by simp; omega), hx.mut hp, updM_same, ?_⟩, fun hc => absurd hc (by decide)⟩
    rw [List.range_succ]
    unfold sL
    rw [List.map_append, List.map_append]; rfl
  rintro acc M1 ⟨x1, m1, rfl⟩
  rw [rng_len, show ((b.r : Nat) : Int).toNat = b.r by omega] at m1
  have m1 : M1 p = some (.lst (sL (insR b))) := m1
  refine ⟨_, m1, fun p2 hp2 => ?_⟩
  have x2 := Ext.new (o := .lst (sL (insR b))) hp2
  have m2 : updM M1 p2 (.lst (sL (insR b))) p2 = some (.lst (sL (holdN b code 0))) := updM_same
  generalize updM M1 p2 (.lst (sL (insR b))) = M2 at x2 m2 ⊢
  refine ⟨Nat.zero_le _, fun p3 hp3 => ?_⟩
  have x3 := Ext.new (o := .lst []) hp3
  have m3 : updM M2 p3 (.lst []) p3 = some (.lst (letD (letsN b code 0))) := updM_same
  generalize updM M2 p3 (.lst []) = M3 at x3 m3 ⊢
  have N : CtN p p2 p3 M := ⟨hp, x1.back hp2, x1.back (x2.back hp3), Ext.ne m1 hp2, Ext.ne (x2 _ _ m1) hp3, Ext.ne m2 hp3⟩
  have x13 := x1.trans (x2.trans x3)
  refine ⟨q, _, rfl, x13 _ _ hq, ?_⟩
  refine ⟨fun i E M' => CtI p p2 p3 b code i M M' ∧ ∃ x4 x7 x8 x9 x10 x11 x12 x13 x14 : Option D, E = [some (.ref a), some (.ref q), some (.tup (wds ends)), some (.ref p), x4, some (.ref p2), some (.ref p3), x7, x8, x9, x10, x11, x12, x13, x14], ⟨⟨x13, x3 _ _ (x2 _ _ m1), x3 _ _ m2, m3⟩, none, none, none, none, none, none, none, none, none, rfl⟩, fun i E M' z => z.1.x _ _ hq, ?_, ?_⟩
  · rintro i E M' d hd ⟨I, x4, x7, x8, x9, x10, x11, x12, x13, x14, rfl⟩
    obtain ⟨y, hy, rfl⟩ := enum_at hd
    obtain ⟨s, hsi, rfl⟩ := stepsD_get hy
    refine ⟨rfl, ?_⟩
    exact r_ctA ok bm (by have := lt_at hsi; omega) hsi (hst s (mem_at hsi)) N I fun M2 x4 x12 x13 x14 I2 => ⟨I2, _, _, _, _, _, _, _, _, _, rfl⟩
  · rintro E M' ⟨I, x4, x7, x8, x9, x10, x11, x12, x13, x14, rfl⟩
    rw [enum_len, stepsD_len] at I
    exact r_ct4 hcl ok bm hc hst he I k
end
/-! ### code_text -/
def sp_code_text (cl : CF) (CT CB : Addr) : DSp := fun ds M Q _ => ∃ (a q : Addr) (b : BK) (code : List ST) (ends : List Nat), ds = [.ref a, .ref q, .tup (wds ends)] ∧ BkM cl CB M a b ∧ b.Ok ∧ M q = some (.lst (stepsD code)) ∧ CodeOk code ∧ EndsOk b.r ends ∧ firstBad b code = none ∧ code.length ≤ 60 ∧ ∀ x M', M x = none → Ext M M' → TxM cl CT M' x (codeTX b code ends) → Q (.ref x) M'
theorem r_code_text (cl : CF) (CT CB : Addr) (hcl : ClT cl CT) : ∀ ds M Q E, sp_code_text cl CT CB ds M Q E → b_code_text cl CT (sp_Text cl CT) CB (sp_deed cl CB) (sp_check_code cl CB) (sp_put_in 8) (En Q) (startD 15 ds) M := by
  rintro ds M Q E ⟨a, q, b, code, ends, rfl, bm, ok, hq, co, he, hn, hc, k⟩
  refine ⟨a, b, .ref q, code, rfl, bm, ok, .inr ⟨q, rfl, hq⟩, co, hn, fun M1 x1 => ?_⟩
  refine .inl ⟨_, x1 _ _ hq, ⟨fun hb => ?_, fun _ => ?_⟩⟩
  · have hb : decide ((60 : Int) < ((stepsD code).length : Nat)) = true := hb
    have := of_decide_eq_true hb
    rw [stepsD_len] at this; omega
  · exact r_ct1 (D0 := En Q) hcl ok (bm.ext x1) (x1 _ _ hq) hc (fb_none hn) he fun x M' h1 h2 h3 => k x M' (x1.back h1) (x1.trans h2) h3
def sp_code_text_x (cl : CF) (CT CB cE cM : Addr) : DSp := fun ds M Q E => ∃ (a q : Addr) (b : BK) (code : List ST) (ends : List Nat), ds = [.ref a, .ref q, .tup (wds ends)] ∧ BkM cl CB M a b ∧ b.Ok ∧ M q = some (.lst (stepsD code)) ∧ CodeOk code ∧ EndsOk b.r ends ∧
  (firstBad b code = none → code.length ≤ 60 → ∀ x M', M x = none → Ext M M' → TxM cl CT M' x (codeTX b code ends) → Q (.ref x) M') ∧ (∀ i, firstBad b code = some i → ∀ e M1, Ext M M1 → M1 e = none → E (.ref cE) (some e) (updM M1 e (.xd [("at", .int (i : Nat))]))) ∧
  (firstBad b code = none → ¬ code.length ≤ 60 → ∀ e M1, Ext M M1 → M1 e = none → E (.ref cM) (some e) (updM M1 e (.xd [("limit", .int 60)])))
theorem r_code_text_x (cl : CF) (CT CB c_TooMany c_BadCode : Addr) (hcl : ClT cl CT) : ∀ ds M Q E, sp_code_text_x cl CT CB c_BadCode c_TooMany ds M Q E → b_code_text_x cl CT (sp_Text cl CT) CB c_TooMany (sp_deed cl CB) (sp_check_code_x cl CB c_BadCode) (sp_put_in 8) (EnX Q E) (startD 15 ds) M := by
  rintro ds M Q E ⟨a, q, b, code, ends, rfl, bm, ok, hq, co, he, k, k2, k3⟩
  refine ⟨a, b, .ref q, code, rfl, bm, ok, .inr ⟨q, rfl, hq⟩, co, fun hn M1 x1 => ?_, fun i hi e M1 x1 he => k2 i hi e M1 x1 he⟩
  refine .inl ⟨_, x1 _ _ hq, ⟨fun hb => ?_, fun hb => ?_⟩⟩
  · have hb : decide ((60 : Int) < ((stepsD code).length : Nat)) = true := hb
    have := of_decide_eq_true hb
    rw [stepsD_len] at this
    exact ⟨⟨60, rfl, by decide⟩, fun e he => k3 hn (by omega) e M1 x1 he⟩
  · have hb : decide ((60 : Int) < ((stepsD code).length : Nat)) = false := hb
    have := of_decide_eq_false hb
    rw [stepsD_len] at this
    exact r_ct1 (D0 := EnX Q E) hcl ok (bm.ext x1) (x1 _ _ hq) (by omega) (fb_none hn) he fun x M' h1 h2 h3 => k hn (by omega) x M' (x1.back h1) (x1.trans h2) h3
end Rv

set_option Elab.async false
set_option linter.all false
set_option autoImplicit false
set_option maxRecDepth 100000
set_option maxHeartbeats 4000000
/-! readings for k78: windows, the law's own small defs -/
namespace Rv
open PySem PySem.Spec PyProof.Rows L2 DH Bd Rd Rk
local macro_rules | `(tactic| walk_at "if") => `(tactic| first | (refine ⟨fun _ => ?_, fun hc => absurd hc (by decide)⟩) | (refine ⟨fun hc => absurd hc (by decide), fun _ => ?_⟩))
theorem r_Text__init___v2 (cl : CF) (C : Addr) : ∀ ds M Q E, sp_Text cl C ds M Q E → b_Text__init___v2 cl (sp_first_bad_line cl C) (En Q) (startD 10 ds) M := r_Text__init__ cl C
theorem r_Book__init___v2 (cl : CF) (CB : Addr) : ∀ ds M Q E, sp_Book cl CB ds M Q E → b_Book__init___v2 cl (sp_first_bad_line2 cl CB) (En Q) (startD 9 ds) M := r_Book__init__ cl CB
/-! ### windows -/
def winC (code : List ST) (i n : Nat) : List ST := (code.drop i).take n
def liveAt (code : List ST) (ends : List Nat) (i : Nat) : List Nat := (liveL (code.drop i) ends).headD []
theorem cutMid {α : Type} {l : List α} {i n : Nat} (h : i + n ≤ l.length) : cutL α l (some (i : Int)) (some ((i : Int) + (n : Int))) = (l.drop i).take n := by
  unfold cutL
  rw [show ((i : Int) + (n : Int)) = ((i + n : Nat) : Int) by push_cast; rfl, HT.sIx_nat l.length 0 i, HT.sIx_nat l.length l.length (i + n), show min i l.length = i by omega, show min (i + n) l.length = i + n by omega, Nat.add_sub_cancel_left]
theorem fb_all {b : BK} : ∀ {code : List ST} {k : Nat}, (∀ s ∈ code, isStep b s = true) → k + code.length ≤ 200 → firstBadF b k code = none
  | [], _, _, _ => by simp [firstBadF]
  | s :: r, k, h, hl => by
    rw [List.length_cons] at hl
    simp only [firstBadF]
    rw [if_neg (by rintro (z | z); omega; rw [h s (by simp)] at z; cases z)]
    exact fb_all (fun x hx => h x (List.mem_cons_of_mem _ hx)) (by omega)
section
variable {b : BK} {code : List ST} {ends : List Nat} {i n : Nat}
theorem winC_len (h : i + n ≤ code.length) : (winC code i n).length = n := by unfold winC; rw [List.length_take, List.length_drop]; omega
theorem winC_mem {s : ST} (h : s ∈ winC code i n) : s ∈ code := List.mem_of_mem_drop (List.mem_of_mem_take h)
theorem winC_co (co : CodeOk code) : CodeOk (winC code i n) := ⟨by have := co.len; unfold winC; rw [List.length_take, List.length_drop]; omega, fun s hs => co.src s (winC_mem hs)⟩
theorem winC_fb (hn : firstBad b code = none) : firstBad b (winC code i n) = none := by
  have hst := fb_none hn
  by_cases e : code = []
  · subst e; unfold winC; simp [firstBad, firstBadF]
  · have := fb_len hn e
    refine fb_all (fun s hs => hst s (winC_mem hs)) ?_
    unfold winC; rw [List.length_take, List.length_drop]; omega
theorem winC_D (h : i + n ≤ code.length) : cutL D (stepsD code) (some (i : Int)) (some ((i : Int) + (n : Int))) = stepsD (winC code i n) := by
  rw [cutMid (by rw [stepsD_len]; exact h)]
  unfold stepsD winC
  rw [List.map_take, List.map_drop]
theorem liveAt_ok (he : EndsOk b.r ends) (hst : ∀ s ∈ code, isStep b s = true) : EndsOk b.r (liveAt code ends i) := by
  unfold liveAt
  obtain ⟨h, t, e⟩ := liveL_cons (code.drop i) ends
  rw [e]
  exact liveL_ok he (code := code.drop i) (fun s hs => hst s (List.mem_of_mem_drop hs)) h (by rw [e]; simp)
theorem live_at (h : i ≤ code.length) : (rowsD (liveL code ends))[i]? = some (.tup (wds (liveAt code ends i))) := by
  unfold rowsD
  rw [List.getElem?_map, liveL_drop h]; rfl
end
def sp_window_text (cl : CF) (CT CB : Addr) : DSp := fun ds M Q _ => ∃ (a q : Addr) (b : BK) (code : List ST) (ends : List Nat) (i n : Nat), ds = [.ref a, .ref q, .tup (wds ends), .int i, .int n] ∧ BkM cl CB M a b ∧ b.Ok ∧ M q = some (.lst (stepsD code)) ∧ CodeOk code ∧ EndsOk b.r ends ∧ firstBad b code = none ∧ i + n ≤ code.length ∧ n ≤ 60 ∧
  ∀ x M', M x = none → Ext M M' → TxM cl CT M' x (codeTX b (winC code i n) (liveAt code ends (i + n))) → Q (.ref x) M'
theorem r_window_text (cl : CF) (CT CB : Addr) : ∀ ds M Q E, sp_window_text cl CT CB ds M Q E → b_window_text (sp_live_sets cl CB) (sp_code_text cl CT CB) (En Q) (startD 6 ds) M := by
  rintro ds M Q E ⟨a, q, b, code, ends, i, n, rfl, bm, ok, hq, co, he, hn, hl, h60, k⟩
  refine ⟨a, q, b, code, ends, rfl, bm, ok, hq, co, he, hn, fun p M1 hp x1 hm => ?_⟩
  refine ⟨_, x1 _ _ hq, fun p2 hp2 => ?_⟩
  have x2 := Ext.new (o := .lst (cutL D (stepsD code) (some (i : Int)) (some ((i : Int) + (n : Int))))) hp2
  have m2 : updM M1 p2 (.lst (cutL D (stepsD code) (some (i : Int)) (some ((i : Int) + (n : Int))))) p2 = some (.lst (stepsD (winC code i n))) := by rw [updM_same, winC_D hl]
  generalize updM M1 p2 (.lst (cutL D (stepsD code) (some (i : Int)) (some ((i : Int) + (n : Int))))) = M2 at x2 m2 ⊢
  refine .inl ⟨_, _, .tup (wds (liveAt code ends (i + n))), x2 _ _ hm, rfl, ?_, ?_⟩
  · rw [show ((i : Int) + (n : Int)) = ((i + n : Nat) : Int) by push_cast; rfl]
    exact atI_nat (live_at hl)
  · exact ⟨a, p2, b, winC code i n, liveAt code ends (i + n), rfl, bm.ext (x1.trans x2), ok, m2, winC_co co, liveAt_ok he (fb_none hn), winC_fb hn, by rw [winC_len hl]; exact h60, fun x M' h1 h2 h3 => k x M' (x1.back (x2.back h1)) ((x1.trans x2).trans h2) h3⟩
def sp_window_text_x (cl : CF) (CT CB cE cM : Addr) : DSp := fun ds M Q E => ∃ (a q : Addr) (b : BK) (code : List ST) (ends : List Nat) (i n : Nat), ds = [.ref a, .ref q, .tup (wds ends), .int i, .int n] ∧ BkM cl CB M a b ∧ b.Ok ∧ M q = some (.lst (stepsD code)) ∧ CodeOk code ∧ EndsOk b.r ends ∧ (firstBad b code = none → i + n ≤ code.length) ∧
  (firstBad b code = none → n ≤ 60 → ∀ x M', M x = none → Ext M M' → TxM cl CT M' x (codeTX b (winC code i n) (liveAt code ends (i + n))) → Q (.ref x) M') ∧ (∀ i, firstBad b code = some i → ∀ e M1, Ext M M1 → M1 e = none → E (.ref cE) (some e) (updM M1 e (.xd [("at", .int (i : Nat))]))) ∧
  (firstBad b code = none → ¬ n ≤ 60 → ∀ e M1, Ext M M1 → M1 e = none → E (.ref cM) (some e) (updM M1 e (.xd [("limit", .int 60)])))
theorem r_window_text_x (cl : CF) (CT CB c_TooMany c_BadCode : Addr) : ∀ ds M Q E, sp_window_text_x cl CT CB c_BadCode c_TooMany ds M Q E → b_window_text_x (sp_live_sets_x cl CB c_BadCode) (sp_code_text_x cl CT CB c_BadCode c_TooMany) (EnX Q E) (startD 6 ds) M := by
  rintro ds M Q E ⟨a, q, b, code, ends, i, n, rfl, bm, ok, hq, co, he, hl, k, k2, k3⟩
  refine ⟨a, q, b, code, ends, rfl, bm, ok, hq, co, he, fun hn p M1 hp x1 hm => ?_, fun i hi e M1 x1 he => k2 i hi e M1 x1 he⟩
  have hl := hl hn
  refine ⟨_, x1 _ _ hq, fun p2 hp2 => ?_⟩
  have x2 := Ext.new (o := .lst (cutL D (stepsD code) (some (i : Int)) (some ((i : Int) + (n : Int))))) hp2
  have m2 : updM M1 p2 (.lst (cutL D (stepsD code) (some (i : Int)) (some ((i : Int) + (n : Int))))) p2 = some (.lst (stepsD (winC code i n))) := by rw [updM_same, winC_D hl]
  generalize updM M1 p2 (.lst (cutL D (stepsD code) (some (i : Int)) (some ((i : Int) + (n : Int))))) = M2 at x2 m2 ⊢
  refine .inl ⟨_, _, .tup (wds (liveAt code ends (i + n))), x2 _ _ hm, rfl, ?_, ?_⟩
  · rw [show ((i : Int) + (n : Int)) = ((i + n : Nat) : Int) by push_cast; rfl]
    exact atI_nat (live_at hl)
  · exact ⟨a, p2, b, winC code i n, liveAt code ends (i + n), rfl, bm.ext (x1.trans x2), ok, m2, winC_co co, liveAt_ok he (fb_none hn), fun _ h60 x M' h1 h2 h3 => k hn (by rw [winC_len hl] at h60; exact h60) x M' (x1.back (x2.back h1)) ((x1.trans x2).trans h2) h3,
      fun j hj => (by rw [winC_fb hn] at hj; cases hj), fun _ h60 e M1 h1 h2 => k3 hn (by rw [winC_len hl] at h60; exact h60) e M1 ((x1.trans x2).trans h1) h2⟩
/-! ### the law's small defs -/
def sp_lwhole : DSp := fun ds M Q _ => ∃ i : Int, ds = [.int i] ∧ Q (.bl true) M
theorem r__law_is_whole_v2 : ∀ ds M Q E, sp_lwhole ds M Q E → b__law_is_whole_v2 (En Q) (startD 1 ds) M := by
  rintro ds M Q E ⟨i, rfl, h⟩
  walk_at "if"
  exact h
def sp_lsame : DSp := fun ds M Q _ => ∃ (p q : Addr) (l : List (List Nat)), ds = [.ref p, .ref q] ∧ M p = some (.lst (rowsD l)) ∧ M q = some (.lst (rowsD l)) ∧ l.length ≤ 1000000 ∧ RetV M Q (.bl true)
theorem rowsD_len (l : List (List Nat)) : (rowsD l).length = l.length := List.length_map ..
theorem rowsD_at {l : List (List Nat)} {i : Nat} {x : List Nat} (h : l[i]? = some x) : (rowsD l)[i]? = some (.tup (wds x)) := by unfold rowsD; rw [List.getElem?_map, h]; rfl
theorem r__law_same : ∀ ds M Q E, sp_lsame ds M Q E → b__law_same sp_lwhole (En Q) (startD 4 ds) M := by
  rintro ds M Q E ⟨p, q, l, rfl, hp, hq, hl, h⟩
  refine .inl ⟨_, hp, ?_⟩
  walk_at "if"
  refine .inl ⟨_, hp, .inl ⟨_, hq, fun hc => absurd hc (by simp), fun _ => ?_⟩⟩
  refine .inl ⟨_, hq, ?_⟩
  rw [rowsD_len]
  refine ⟨by omega, by omega, ?_⟩
  refine ⟨fun i E M' => Ext M M' ∧ ∃ x y, E = [some (.ref p), some (.ref q), x, y], ⟨Ext.refl _, none, none, rfl⟩, fun _ _ _ _ => trivial, ?_, ?_⟩
  · rintro i E M' d hd ⟨hx, x, y, rfl⟩
    obtain ⟨hi, rfl⟩ := rng_at hd
    have hi : i < l.length := by have : i < ((l.length : Nat) : Int).toNat := hi; omega
    rw [Int.zero_add]
    have hat := rowsD_at (getE hi)
    generalize l[i] = row at hat
    have hp' := hx _ _ hp
    have hq' := hx _ _ hq
    refine .inl ⟨_, _, _, hp', rfl, atI_nat hat, ?_⟩
    walk_at "if"
    refine .inl ⟨_, _, _, hp', rfl, atI_nat hat, .inl ⟨_, _, _, hq', rfl, atI_nat hat, ?_⟩⟩
    refine ne_same (ok_wds row) (by decide) ?_
    walk_at "if"
    refine .inl ⟨_, _, _, hp', rfl, atI_nat hat, fun r hr => ?_⟩
    refine ⟨fun j acc M2 => Ext M' M2 ∧ M2 r = some (.lst acc) ∧ acc = [], ⟨Ext.new hr, updM_same, rfl⟩, fun _ _ _ _ => trivial, ?_, ?_⟩
    · rintro j acc M2 d hd ⟨hx2, hm, rfl⟩
      obtain ⟨z, _, rfl⟩ := wds_at hd
      refine ⟨z, rfl, ?_⟩
      exact ⟨fun hc => absurd hc (by decide), fun _ => ⟨hx2, hm, rfl⟩⟩
    · rintro acc M2 ⟨hx2, hm, rfl⟩
      refine .inl ⟨_, hm, ?_⟩
      walk_at "if"
      exact ⟨hx.trans hx2, _, _, rfl⟩
  · rintro E M' ⟨hx, x, y, rfl⟩
    exact h M' hx
/-! ### windows by the law -/
def winsN (many size : Nat) : List (List Nat) := (List.range many).flatMap fun i => ((List.range size).filter fun k => decide (i + (k + 1) ≤ many)).map fun k => [i, k + 1]
theorem winsN_len (many size : Nat) : ∀ n, ((List.range n).flatMap fun i => ((List.range size).filter fun k => decide (i + (k + 1) ≤ many)).map fun k => [i, k + 1]).length ≤ n * size := by
  intro n
  have := fm_le (l := List.range n) (f := fun i => ((List.range size).filter fun k => decide (i + (k + 1) ≤ many)).map fun k => [i, k + 1]) (n := size) fun i _ => by
    rw [List.length_map]
    have := List.length_filter_le (fun k => decide (i + (k + 1) ≤ many)) (List.range size)
    rw [List.length_range] at this
    exact this
  rw [List.length_range] at this
  exact this
def sp_lwindows : DSp := fun ds M Q _ => ∃ many size : Nat, ds = [.int many, .int size] ∧ many ≤ 1000 ∧ size ≤ 1000 ∧ RetL M Q (rowsD (winsN many size))
theorem r__law_windows : ∀ ds M Q E, sp_lwindows ds M Q E → b__law_windows (En Q) (startD 5 ds) M := by
  rintro ds M Q E ⟨many, size, rfl, hm, hs, h⟩
  refine ⟨Nat.zero_le _, fun p hp => ?_⟩
  refine ⟨by omega, by omega, ?_⟩
  refine ⟨fun i E M' => Ext M M' ∧ M' p = some (.lst (rowsD ((List.range i).flatMap fun i => ((List.range size).filter fun k => decide (i + (k + 1) ≤ many)).map fun k => [i, k + 1]))) ∧ ∃ x3 x4 : Option D, E = [some (.int many), some (.int size), some (.ref p), x3, x4], ⟨Ext.new hp, updM_same, none, none, rfl⟩, fun _ _ _ _ => trivial, ?_, ?_⟩
  · rintro i E M' d hd ⟨hx, hmm, x3, x4, rfl⟩
    obtain ⟨hi, rfl⟩ := rng_at hd
    have hi : i < many := by have : i < (many : Int).toNat := hi; omega
    rw [Int.zero_add]
    refine ⟨⟨by omega, by omega, by omega, by omega⟩, ?_⟩
    refine ⟨fun j E M2 => Ext M M2 ∧ M2 p = some (.lst (rowsD (((List.range i).flatMap fun i => ((List.range size).filter fun k => decide (i + (k + 1) ≤ many)).map fun k => [i, k + 1]) ++ ((List.range j).filter fun k => decide (i + (k + 1) ≤ many)).map fun k => [i, k + 1]))) ∧ ∃ x4 : Option D, E = [some (.int many), some (.int size), some (.ref p), some (.int (i : Nat)), x4], ⟨hx, by simpa using hmm, x4, rfl⟩, fun _ _ _ _ => trivial, ?_, ?_⟩
    · rintro j E M2 d hd ⟨hx2, hm2, x4, rfl⟩
      obtain ⟨hj, rfl⟩ := rng_at hd
      have hj : j < size := by have : j < ((size : Int) + 1 - 1).toNat := hj; omega
      have ej : (1 : Int) + (j : Int) = ((j + 1 : Nat) : Int) := by push_cast; omega
      rw [ej]
      refine ⟨fun hc => ?_, fun hc => ?_⟩
      · have hc : decide ((i : Int) + ((j + 1 : Nat) : Int) ≤ (many : Int)) = true := hc
        have hc := of_decide_eq_true hc
        have hd : decide (i + (j + 1) ≤ many) = true := decide_eq_true (by omega)
        have hlen := winsN_len many size i
        have hle : i * size ≤ 1000 * 1000 := Nat.mul_le_mul (by omega) hs
        have hfl := List.length_filter_le (fun k => decide (i + (k + 1) ≤ many)) (List.range j)
        rw [List.length_range] at hfl
        refine ⟨⟨_, hm2⟩, by show 2 ≤ sizeLine; decide, _, hm2, tolist ?_, hx2.mut hp, ?_, _, rfl⟩
        · rw [rowsD_len, List.length_append, List.length_map]; omega
        · rw [updM_same, List.range_succ, List.filter_append, List.map_append, List.filter_cons, hd, ← List.append_assoc, rowsD_app, rowsD_app, rowsD_app]; rfl
      · have hc : decide ((i : Int) + ((j + 1 : Nat) : Int) ≤ (many : Int)) = false := hc
        have hc := of_decide_eq_false hc
        have hd : decide (i + (j + 1) ≤ many) = false := decide_eq_false (by omega)
        refine ⟨hx2, ?_, _, rfl⟩
        rw [List.range_succ, List.filter_append, List.map_append, List.filter_cons, hd]
        simpa using hm2
    · rintro E M2 ⟨hx2, hm2, x4, rfl⟩
      rw [rng_len, show ((size : Int) + 1 - 1).toNat = size by omega] at hm2
      refine ⟨hx2, ?_, _, _, rfl⟩
      rw [hm2, List.range_succ, List.flatMap_append]
      simp
  · rintro E M' ⟨hx, hmm, x3, x4, rfl⟩
    rw [rng_len, show ((many : Nat) : Int).toNat = many by omega] at hmm
    exact h p M' hp hx hmm
end Rv

set_option Elab.async false
set_option linter.all false
set_option autoImplicit false
set_option maxRecDepth 100000
set_option maxHeartbeats 4000000
/-! readings for k78: windows asked, the law's live sets, refusals -/
namespace Rv
open PySem PySem.Spec PyProof.Rows L2 DH Bd Rd Rk
local macro_rules | `(tactic| walk_at "if") => `(tactic| first | (refine ⟨fun _ => ?_, fun hc => absurd hc (by decide)⟩) | (refine ⟨fun hc => absurd hc (by decide), fun _ => ?_⟩))
theorem filt_range (i m : Nat) : ∀ n, (List.range n).filter (fun k => decide (i + (k + 1) ≤ m)) = List.range (min n (m - i))
  | 0 => by simp
  | n + 1 => by
    rw [List.range_succ, List.filter_append, filt_range i m n, List.filter_cons]
    by_cases h : i + (n + 1) ≤ m
    · rw [decide_eq_true h, if_pos rfl, show min (n + 1) (m - i) = n + 1 by omega, show min n (m - i) = n by omega, List.range_succ]; rfl
    · rw [decide_eq_false h, show min (n + 1) (m - i) = min n (m - i) by omega]
      simp
theorem flatMap_cg {α β : Type} {f g : α → List β} : ∀ {l : List α}, (∀ a ∈ l, f a = g a) → l.flatMap f = l.flatMap g
  | [], _ => rfl
  | a :: l, h => by rw [List.flatMap_cons, List.flatMap_cons, h a (by simp), flatMap_cg fun x hx => h x (List.mem_cons_of_mem _ hx)]
theorem winsD_eq (many size : Nat) : DG.winsD many size = rowsD (winsN many size) := by
  unfold DG.winsD DG.wins DG.winsFrom rowsD winsN DG.winsAt DG.wlen
  rw [Nat.sub_zero, ← List.range_eq_range', List.map_flatMap, List.map_flatMap]
  refine flatMap_cg fun a _ => ?_
  rw [Nat.sub_zero, ← List.range_eq_range', filt_range, List.map_map, List.map_map]
  rfl
/-! ### window_places asked -/
def b_pl2 (s__law_same s__law_windows : DSp) : DS := dSeq (dAsg (dLst (dNil)) (.nm 5)) (dSeq (DG.dForW (dCons (dVar 2) (dCons (dVar 3) (dNil))) 5 6) (dRet (dCall s__law_same (dCons (dVar 5) (dCons (dCall s__law_windows (dCons (dVar 2) (dCons (dVar 3) (dNil)))) (dNil))))))
def b_pl1 (s__law_take s__law_same s__law_windows : DSp) : DS := dSeq (dIf (dtB (dOp (oIn false) (dVar 4) (dLst (dCons (dC (.int 2)) (dCons (dC (.int 3)) (dNil)))))) (dAsg (dCall s__law_take (dCons (dVar 0) (dCons (dVar 1) (dCons (dC (.int 201)) (dNil))))) (.nm 3)) (dNext)) (b_pl2 s__law_same s__law_windows)
def sp_lplaces : DSp := fun ds M Q _ => ∃ p c : Addr, ds = [.ref p, .ref c] ∧ Dw p c M ∧ ∀ M', Dr c M M' → Q (.bl true) M'
theorem t_pl2 {p c : Addr} {M0 M : Mm} {Q : DQ} {many size : Nat} {x4 x5 x6 : Option D} (hm : many ≤ 1000) (hs : size ≤ 1000) (d0 : Dr c M0 M) (hc : Cur c M0) (h : ∀ M', Dr c M0 M' → Q (.bl true) M') : b_pl2 sp_lsame sp_lwindows (En Q) [some (.ref p), some (.ref c), some (.int (many : Nat)), some (.int (size : Nat)), x4, x5, x6] M := by
  refine ⟨Nat.zero_le _, fun q hq => ?_⟩
  have xq := Ext.new (o := .lst []) hq
  have hlen := winsN_len many size many
  have hle : many * size ≤ 1000 * 1000 := Nat.mul_le_mul hm hs
  have hwl : (winsN many size).length ≤ 1000000 := by unfold winsN; omega
  refine ⟨many, size, q, [], rfl, hm, hs, rfl, updM_same, ?_, ?_⟩
  · rw [winsD_eq, rowsD_len]
    exact tolist (by show 0 + _ ≤ _; omega)
  rw [winsD_eq, List.nil_append]
  have x1 : Ext M (updM (updM M q (.lst [])) q (.lst (rowsD (winsN many size)))) := xq.mut hq
  have m1 : updM (updM M q (.lst [])) q (.lst (rowsD (winsN many size))) q = some (.lst (rowsD (winsN many size))) := updM_same
  generalize updM (updM M q (.lst [])) q (.lst (rowsD (winsN many size))) = M1 at x1 m1 ⊢
  refine ⟨many, size, rfl, hm, hs, fun r M2 hr x2 m2 => ?_⟩
  exact ⟨q, r, winsN many size, rfl, x2 _ _ m1, m2, hwl, fun M3 x3 => h M3 (d0.trans (.ofExt (x1.trans (x2.trans x3))))⟩
theorem t_pl1 {p c : Addr} {M0 M : Mm} {Q : DQ} {many size rare : Nat} {x5 x6 : Option D} (hm : many ≤ 1000) (hs : size ≤ 1000) (dw : Dw p c M0) (d0 : Dr c M0 M) (h : ∀ M', Dr c M0 M' → Q (.bl true) M') : b_pl1 sp_take sp_lsame sp_lwindows (En Q) [some (.ref p), some (.ref c), some (.int (many : Nat)), some (.int (size : Nat)), some (.int (rare : Nat)), x5, x6] M := by
  refine ⟨by show 2 ≤ sizeLine; decide, fun q hq => ?_⟩
  have d1 := d0.trans (Dr.new (o := .lst [.int 2, .int 3]) hq)
  refine .inl ⟨[.int 2, .int 3], updM_same, rfl, rfl, ⟨fun _ => ?_, fun _ => ?_⟩⟩
  · exact ⟨p, c, 201, rfl, by decide, dw.go d1, fun s hs2 M2 d2 => t_pl2 hm (by omega) (d1.trans d2) dw.cur h⟩
  · exact t_pl2 hm hs d1 dw.cur h
theorem r__law_places_asked : ∀ ds M Q E, sp_lplaces ds M Q E → b__law_places_asked sp_take sp_lsame sp_lwindows (En Q) (startD 7 ds) M := by
  rintro ds M Q E ⟨p, c, rfl, dw, h⟩
  refine ⟨p, c, 15, rfl, by decide, dw, fun many hm M1 d1 => ?_⟩
  refine ⟨p, c, 5, rfl, by decide, dw.go d1, fun size hs M2 d2 => ?_⟩
  refine ⟨p, c, 16, rfl, by decide, dw.go (d1.trans d2), fun rare hr M3 d3 => ?_⟩
  have d := d1.trans (d2.trans d3)
  refine ⟨fun _ => ?_, fun _ => ?_⟩
  · exact ⟨p, c, 201, rfl, by decide, dw.go d, fun m hm2 M4 d4 => t_pl1 (by omega) (by omega) dw (d.trans d4) h⟩
  · exact t_pl1 (by omega) (by omega) dw d h
/-! ### the law's live sets -/
theorem inD_int (i : Int) (l : List Int) : inD (.int i) (l.map D.int) = decide (i ∈ l) := by
  induction l with
  | nil => rfl
  | cons x l ih =>
    show (x == i || inD (.int i) (l.map D.int)) = _
    rw [ih, Bool.eq_iff_iff]
    simp only [Bool.or_eq_true, beq_iff_eq, decide_eq_true_eq, List.mem_cons]
    constructor
    · rintro (h | h)
      · exact .inl h.symm
      · exact .inr h
    · rintro (h | h)
      · exact .inl h.symm
      · exact .inr h
theorem flat_int (l : List Int) : (l.map D.int).all flatD = true := by
  rw [List.all_eq_true]
  intro d hd
  obtain ⟨x, _, rfl⟩ := List.mem_map.mp hd
  rfl
theorem mem_ofNat {i : Nat} {l : List Nat} : ((i : Int) ∈ l.map Int.ofNat) ↔ i ∈ l := by
  rw [List.mem_map]
  constructor
  · rintro ⟨x, hx, e⟩
    have : x = i := Int.ofNat.inj e
    exact this ▸ hx
  · exact fun h => ⟨i, h, rfl⟩
def sp_llive : DSp := fun ds M Q _ => ∃ (q : Addr) (code : List ST) (ends : List Nat), ds = [.ref q, .tup (wds ends)] ∧ M q = some (.lst (stepsD code)) ∧ code.length ≤ 1000 ∧ RetL M Q (rowsD (liveL code ends))
theorem r__law_live : ∀ ds M Q E, sp_llive ds M Q E → b__law_live (En Q) (startD 7 ds) M := by
  rintro ds M Q E ⟨q, code, ends, rfl, hq, hl, h⟩
  refine ⟨by show 1 ≤ sizeLine; decide, fun p hp => ?_⟩
  have xp := Ext.new (o := .lst [.tup (wds ends)]) hp
  have pm : updM M p (.lst [.tup (wds ends)]) p = some (.lst (rowsD (liveL (code.drop (code.length - 0)) ends))) := by
    rw [updM_same, Nat.sub_zero, List.drop_length]; rfl
  generalize updM M p (.lst [.tup (wds ends)]) = M1 at xp pm ⊢
  refine .inl ⟨_, xp _ _ hq, ?_⟩
  rw [stepsD_len]
  refine ⟨by omega, by omega, ?_⟩
  refine ⟨fun i E M' => Ext M M' ∧ ∃ p' x3 x4 x5 x6, M p' = none ∧ M' p' = some (.lst (rowsD (liveL (code.drop (code.length - i)) ends))) ∧ E = [some (.ref q), some (.tup (wds ends)), some (.ref p'), x3, x4, x5, x6], ⟨xp, p, none, none, none, none, hp, pm, rfl⟩, fun _ _ _ _ => trivial, ?_, ?_⟩
  · rintro i E M' d hd ⟨hx, p', x3, x4, x5, x6, hp', hm, rfl⟩
    obtain ⟨hi, rfl⟩ := rng_at hd
    have hi : i < code.length := by have : i < (code.length : Int).toNat := hi; omega
    rw [Int.zero_add]
    have hq' := hx _ _ hq
    have h1 : code.length - (i + 1) < code.length := by omega
    have hat := getE h1
    have hdr : code.drop (code.length - (i + 1)) = code[code.length - (i + 1)] :: code.drop (code.length - i) := by
      have h2 := List.drop_eq_getElem_cons h1
      rw [h2, show code.length - (i + 1) + 1 = code.length - i by omega]
    generalize code[code.length - (i + 1)] = s at hat hdr
    obtain ⟨hh, tt, e⟩ := liveL_cons (code.drop (code.length - i)) ends
    have hlen := liveL_len ends (code.drop (code.length - i))
    rw [List.length_drop] at hlen
    refine .inl ⟨_, hq', ?_⟩
    refine .inl ⟨_, _, stD s, hq', rfl, ?_, ?_⟩
    · rw [stepsD_len, show ((code.length : Nat) : Int) - 1 - (i : Int) = ((code.length - (i + 1) : Nat) : Int) by omega]
      exact atI_nat (stepsD_at hat)
    refine ⟨Nat.zero_le _, fun r hr => ?_⟩
    have xr := Ext.new (o := .lst []) hr
    have hne : p' ≠ r := Ext.ne hm hr
    refine ⟨by decide, by decide, ?_⟩
    refine ⟨fun j E M2 => Ext M' M2 ∧ M2 r = some (.lst (wds ((List.range j).filter (liveB s hh)))) ∧ ∃ x6 : Option D, E = [some (.ref q), some (.tup (wds ends)), some (.ref p'), some (.int (i : Nat)), some (stD s), some (.ref r), x6], ⟨xr, updM_same, x6, rfl⟩, fun _ _ _ _ => trivial, ?_, ?_⟩
    · rintro j E M2 d hd ⟨hx2, hm2, y6, rfl⟩
      obtain ⟨hj, rfl⟩ := rng_at hd
      have hj : j < 4 := hj
      rw [Int.zero_add]
      have yes : liveB s hh j = true → (dDrop (dApp (dVar 5) (dVar 6)) : DS) { nx := fun E M2 => Ext M' M2 ∧ M2 r = some (.lst (wds ((List.range (j + 1)).filter (liveB s hh)))) ∧ ∃ x6 : Option D, E = [some (.ref q), some (.tup (wds ends)), some (.ref p'), some (.int (i : Nat)), some (stD s), some (.ref r), x6], rt := fun _ _ => False } [some (.ref q), some (.tup (wds ends)), some (.ref p'), some (.int (i : Nat)), some (stD s), some (.ref r), some (.int (j : Nat))] M2 := fun hb => by
        have hfl := List.length_filter_le (liveB s hh) (List.range j)
        rw [List.length_range] at hfl
        refine ⟨⟨_, hm2⟩, _, hm2, tolist (by rw [wds_len]; omega), hx2.mut hr, ?_, _, rfl⟩
        rw [updM_same, List.range_succ, List.filter_append, wds_app, List.filter_cons, hb]; rfl
      have no : liveB s hh j = false → ∀ x6 : Option D, Ext M' M2 ∧ M2 r = some (.lst (wds ((List.range (j + 1)).filter (liveB s hh)))) ∧ ∃ x : Option D, [some (D.ref q), some (.tup (wds ends)), some (.ref p'), some (.int (i : Nat)), some (stD s), some (.ref r), x6] = [some (.ref q), some (.tup (wds ends)), some (.ref p'), some (.int (i : Nat)), some (stD s), some (.ref r), x] := fun hb x6 => by
        refine ⟨hx2, ?_, _, rfl⟩
        rw [List.range_succ, List.filter_append, List.filter_cons, hb]
        simpa using hm2
      refine ⟨.tup (s.src.map .int), rfl, ?_⟩
      refine ⟨rfl, flat_int _, ?_⟩
      rw [inD_int]
      refine ⟨fun hc => ?_, fun hc => ?_⟩
      · have hc : decide ((j : Int) ∈ s.src) = true := hc
        refine ⟨fun _ => ?_, fun hz => absurd hz (by decide)⟩
        exact yes (liveB_iff.mpr (.inl (of_decide_eq_true hc)))
      have hc : decide ((j : Int) ∈ s.src) = false := hc
      have hc := of_decide_eq_false hc
      have hm3 := hx2 _ _ hm
      rw [e] at hm3
      refine .inl ⟨_, _, .tup (wds hh), hm3, rfl, at0, ?_⟩
      refine ⟨rfl, flat_ints _, ?_⟩
      rw [inD_ints, decide_eq_decide.mpr mem_ofNat]
      refine ⟨fun hl1 => ?_, fun hl1 => ?_⟩
      · have hl1 : decide (j ∈ hh) = true := hl1
        have hl1 := of_decide_eq_true hl1
        refine ⟨.int s.tg, rfl, ?_⟩
        refine ⟨fun ht => ?_, fun ht => ?_⟩
        · have ht : (!decide ((j : Int) = s.tg)) = true := ht
          exact yes (liveB_iff.mpr (.inr ⟨hl1, by simpa using ht⟩))
        · have ht : (!decide ((j : Int) = s.tg)) = false := ht
          refine no ?_ _
          cases hb : liveB s hh j with
          | false => rfl
          | true =>
            rcases liveB_iff.mp hb with z | z
            · exact absurd z hc
            · exact absurd (by simpa using ht) z.2
      · have hl1 : decide (j ∈ hh) = false := hl1
        have hl1 := of_decide_eq_false hl1
        refine ⟨fun hz => absurd hz (by decide), fun _ => ?_⟩
        refine no ?_ _
        cases hb : liveB s hh j with
        | false => rfl
        | true =>
          rcases liveB_iff.mp hb with z | z
          · exact absurd z hc
          · exact absurd z.1 hl1
    · rintro E M2 ⟨hx2, hm2, y6, rfl⟩
      have hm2 : M2 r = some (.lst (wds (liveA s hh))) := hm2
      refine ⟨_, hm2, ⟨by show 1 ≤ sizeLine; decide, fun r2 hr2 => ?_⟩⟩
      have x3 := Ext.new (o := .lst [.tup (wds (liveA s hh))]) hr2
      have hm3 := x3 _ _ (hx2 _ _ hm)
      have m4 : updM M2 r2 (.lst [.tup (wds (liveA s hh))]) r2 = some (.lst [.tup (wds (liveA s hh))]) := updM_same
      generalize updM M2 r2 (.lst [.tup (wds (liveA s hh))]) = M3 at x3 hm3 m4 ⊢
      refine ⟨_, _, m4, hm3, ?_, fun r3 hr3 => ?_⟩
      · rw [rowsD_len, hlen]
        exact Nat.le_of_lt (tolist (by show 1 + _ ≤ _; omega))
      have hx4 := hx.trans (hx2.trans x3)
      refine ⟨hx4.trans (Ext.new hr3), r3, _, _, _, _, hx4.back hr3, ?_, rfl⟩
      rw [updM_same, hdr]
      show _ = some (MO.lst (rowsD (liveA s ((liveL (code.drop (code.length - i)) ends).headD []) :: liveL (code.drop (code.length - i)) ends)))
      rw [e]; rfl
  · rintro E M' ⟨hx, p', x3, x4, x5, x6, hp', hm, rfl⟩
    rw [rng_len, show ((code.length : Nat) : Int).toNat = code.length by omega, Nat.sub_self, List.drop_zero] at hm
    exact h p' M' hp' hx hm
/-! ### refusals -/
def winP : Option (Nat × Nat) → D
  | none => .tup []
  | some w => .tup [.int w.1, .int w.2]
def sp_lbad (cl : CF) (CB : Addr) : DSp := fun ds M Q _ => ∃ (a q : Addr) (b : BK) (code : List ST) (ends : List Nat) (w : Option (Nat × Nat)), ds = [.ref a, .ref q, .tup (wds ends), winP w] ∧ BkM cl CB M a b ∧ b.Ok ∧ M q = some (.lst (stepsD code)) ∧ CodeOk code ∧ EndsOk b.r ends ∧
  (∀ v, w = some v → (firstBad b code = none → v.1 + v.2 ≤ code.length) ∧ v.2 ≤ 60) ∧ RetV M Q (.int (fbI (firstBad b code)))
theorem r__law_bad_v2 (cl : CF) (CT CB c_BadCode c_NoneshorterError c_TooMany : Addr) (sub kN kT : Value → Option Bool) (xs_BadCode : sub (.ref c_BadCode) = some true) (xk_BadCode_NoneshorterError : kN (.ref c_BadCode) = some true) (xk_BadCode_TooMany : kT (.ref c_BadCode) = some false) :
    ∀ ds M Q E, sp_lbad cl CB ds M Q E → b__law_bad_v2 c_BadCode c_NoneshorterError c_TooMany sub kN kT (sp_live_sets_x cl CB c_BadCode) (sp_window_text_x cl CT CB c_BadCode c_TooMany) sp_lwhole (En Q) (startD 5 ds) M := by
  rintro ds M Q E ⟨a, q, b, code, ends, w, rfl, bm, ok, hq, co, he, hw, h⟩
  have bad : ∀ (i : Nat), firstBad b code = some i → ∀ (e : Addr) (M1 : Mm), Ext M M1 → M1 e = none → ∃ bb, sub (.ref c_BadCode) = some bb ∧ (bb = true → ∀ x : Addr, updM M1 e (.xd [("at", .int (i : Nat))]) x = none →
      (dIf (dtAnd (dtE (dIsX kN x (.ref c_BadCode) (some e) c_BadCode (dVar 4))) (dtAnd (dtNot (dtE (dIsX kT x (.ref c_BadCode) (some e) c_BadCode (dVar 4)))) (dtE (dCall sp_lwhole (dCons (dXf x (.ref c_BadCode) (some e) c_BadCode "at" (dVar 4)) (dNil)))))) (dRet (dXf x (.ref c_BadCode) (some e) c_BadCode "at" (dVar 4))) (dNext) : DS)
        { nx := fun E2 M2 => dRet (dUn oNeg (dC (.int 1))) (En Q) (E2.set 4 none) M2, rt := Q, bk := fun _ _ => False, ct := fun _ _ => False } [some (.ref a), some (.ref q), some (.tup (wds ends)), some (winP w), some (.ref x)] (updM M1 e (.xd [("at", .int (i : Nat))]))) ∧ (bb = false → False) := by
    intro i hi e M1 x1 he
    refine ⟨true, xs_BadCode, fun _ x hx => ?_, fun hc => absurd hc (by decide)⟩
    have hm : updM M1 e (.xd [("at", .int (i : Nat))]) e = some (.xd [("at", .int (i : Nat))]) := updM_same
    refine ⟨rfl, rfl, e, _, true, rfl, hm, xk_BadCode_NoneshorterError, ?_⟩
    walk_at "if"
    refine ⟨rfl, rfl, e, _, false, rfl, hm, xk_BadCode_TooMany, ?_⟩
    walk_at "if"
    refine ⟨rfl, rfl, e, _, .int (i : Nat), rfl, hm, rfl, ?_⟩
    refine ⟨_, rfl, ?_⟩
    walk_at "if"
    refine ⟨rfl, rfl, e, _, .int (i : Nat), rfl, hm, rfl, ?_⟩
    have := h _ (x1.trans (Ext.new (o := .xd [("at", .int (i : Nat))]) he))
    rw [hi] at this
    exact this
  have good : firstBad b code = none → ∀ M1, Ext M M1 → Q (.int (-1)) M1 := fun hn M1 x1 => by
    have := h M1 x1
    rw [hn] at this
    exact this
  cases w with
  | none =>
    walk_at "if"
    exact ⟨a, q, b, code, ends, rfl, bm, ok, hq, co, he, fun hn p M1 hp x1 hm => good hn M1 x1, fun i hi e M1 x1 he => bad i hi e M1 x1 he⟩
  | some v =>
    obtain ⟨h1, h2⟩ := hw v rfl
    refine ⟨fun hc => absurd hc (by simp), fun _ => ?_⟩
    refine ⟨_, at0, _, (rfl : atI _ 1 = some (.int (v.2 : Nat))), ?_⟩
    exact ⟨a, q, b, code, ends, v.1, v.2, rfl, bm, ok, hq, co, he, h1, fun hn _ x M' _ hx _ => good hn M' hx, fun i hi e M1 x1 he => bad i hi e M1 x1 he, fun _ z => absurd h2 z⟩
end Rv

set_option Elab.async false
set_option linter.all false
set_option autoImplicit false
set_option maxRecDepth 100000
set_option maxHeartbeats 4000000
/-! readings for k78: the text asked -/
namespace Rv
open PySem PySem.Spec PyProof.Rows L2 DH Bd Rd Rk
local macro_rules | `(tactic| walk_at "if") => `(tactic| first | (refine ⟨fun _ => ?_, fun hc => absurd hc (by decide)⟩) | (refine ⟨fun hc => absurd hc (by decide), fun _ => ?_⟩))
theorem ins_cut {b : BK} (ok : b.Ok) : cutL D [.str "r0", .str "r1", .str "r2", .str "r3"] none (some (b.r : Int)) = sL (insR b) := by
  have r4 := ok.r4
  have e0 : rN 0 = "r0" := by decide +kernel
  have e1 : rN 1 = "r1" := by decide +kernel
  have e2 : rN 2 = "r2" := by decide +kernel
  have e3 : rN 3 = "r3" := by decide +kernel
  rw [cutTo _ _ _ (by simpa using r4)]
  unfold insR
  generalize b.r = r at r4
  match r, r4 with
  | 0, _ => rfl
  | 1, _ => show [D.str "r0"] = [D.str (rN 0)]; rw [e0]
  | 2, _ => show [D.str "r0", .str "r1"] = [D.str (rN 0), .str (rN 1)]; rw [e0, e1]
  | 3, _ => show [D.str "r0", .str "r1", .str "r2"] = [D.str (rN 0), .str (rN 1), .str (rN 2)]; rw [e0, e1, e2]
  | 4, _ => show [D.str "r0", .str "r1", .str "r2", .str "r3"] = [D.str (rN 0), .str (rN 1), .str (rN 2), .str (rN 3)]; rw [e0, e1, e2, e3]
theorem sl_tup {ds es : List D} {lo hi : Option Int} {M : Mm} {Q : DQ} (e : cutL D ds lo hi = es) (q : Q (.tup es) M) : oSl (.tup ds) lo hi M Q := by
  subst e; exact q
theorem ok_strs {l : List Str} (h : ∀ s ∈ l, PyData.strOk s = true) : OkD 1 (.tup (sL l)) := ok_tup fun d hd => by
  obtain ⟨s, hs, rfl⟩ := List.mem_map.mp hd
  exact ok_str (h s hs) 0
theorem winC_at {code : List ST} {i n j : Nat} (h : j < n) : (winC code i n)[j]? = code[i + j]? := by
  unfold winC
  rw [List.getElem?_take_of_lt h, List.getElem?_drop]
/-- the outputs as pairs -/
def prD (l : List Nat) (st : List Nat) : List D := l.map fun r => .tup [.int (r : Nat), .int (st.getD r 0 : Nat)]
theorem ok_prD (l st : List Nat) : OkD 2 (.tup (prD l st)) := ok_tup fun d hd => by
  obtain ⟨r, _, rfl⟩ := List.mem_map.mp hd
  refine ok_tup fun e he => ?_
  simp only [List.mem_cons, List.not_mem_nil, or_false] at he
  rcases he with rfl | rfl <;> exact ok_int _ _
def sp_ltext (cl : CF) (CB : Addr) : DSp := fun ds M Q _ => ∃ (a aw ad x q : Addr) (b : BK) (code : List ST) (ends : List Nat) (i n : Nat) (st : List Nat), ds = [.ref a, .ref x, .ref q, .tup (wds ends), .tup [.int i, .int n], .tup (wds st)] ∧ DaB M a aw ad b ∧ BkM cl CB M x b ∧ b.Ok ∧ M q = some (.lst (stepsD code)) ∧ CodeOk code ∧ (∀ d ∈ stepsD code, OkD 3 d) ∧ EndsOk b.r ends ∧ firstBad b code = none ∧ i + n ≤ code.length ∧ n ≤ 60 ∧ StOk b st ∧ RetV M Q (.bl true)
theorem r__law_text_asked (cl : CF) (CT CB : Addr) (kT : Value → Option Bool) (xk_Text_Text : kT (.ref CT) = some true) : ∀ ds M Q E, sp_ltext cl CB ds M Q E → b__law_text_asked cl CT kT sp_llive (sp_window_text cl CT CB) sp_lafter (sp_text_outputs cl CT) (En Q) (startD 15 ds) M := by
  rintro ds M Q E ⟨a, aw, ad, x, q, b, code, ends, i, n, st, rfl, da, bm, ok, hq, co, hoks, he, hn, hin, h60, so, h⟩
  have hst := fb_none hn
  have cl1 := co.len
  have r4 := ok.r4
  refine ⟨_, at0, .int (n : Nat), rfl, ?_⟩
  refine ⟨q, code, ends, rfl, hq, cl1, fun p1 M1 hp1 x1 m1 => ?_⟩
  refine .inl ⟨_, _, .tup (wds (liveAt code ends (i + n))), m1, rfl, ?_, ?_⟩
  · rw [show ((i : Int) + (n : Int)) = ((i + n : Nat) : Int) by push_cast; rfl]
    exact atI_nat (live_at hin)
  have hlive : EndsOk b.r (liveAt code ends (i + n)) := liveAt_ok he hst
  refine ⟨_, x1 _ _ hq, fun g hg => ?_⟩
  have xg := Ext.new (o := .lst (stepsD code)) hg
  have mg : updM M1 g (.lst (stepsD code)) g = some (.lst (stepsD code)) := updM_same
  generalize updM M1 g (.lst (stepsD code)) = M2 at xg mg ⊢
  have x2 := x1.trans xg
  refine ⟨_, (rfl : atI _ 1 = some (.int (n : Nat))), ?_⟩
  refine ⟨x, g, b, code, ends, i, n, rfl, bm.ext x2, ok, mg, co, he, hn, hin, h60, fun t M3 ht x3 tx => ?_⟩
  have x13 := x2.trans x3
  have hwst : ∀ s ∈ winC code i n, isStep b s = true := fun s hs => hst s (winC_mem hs)
  have hwl : (winC code i n).length = n := winC_len hin
  have tok := codeTX_ok ok (code := winC code i n) (ends := liveAt code ends (i + n)) (by rw [hwl]; exact h60) hwst hlive
  refine ⟨t, _, true, rfl, tx.at_, xk_Text_Text, ?_⟩
  walk_at "if"
  refine ⟨_, _, _, _, rfl, tx.at_, tx.cl _ (by simp), rfl, ?_⟩
  refine .inl ⟨_, _, .int (b.w : Nat), x13 _ _ da.h0, rfl, at0, ⟨fun hc => absurd hc (by simp [codeTX]), fun _ => ?_⟩⟩
  refine ⟨_, _, _, _, rfl, tx.at_, tx.cl _ (by simp), rfl, ?_⟩
  refine ⟨by show 4 ≤ sizeLine; decide, ?_⟩
  refine .inl ⟨_, _, .int (b.r : Nat), x13 _ _ da.h0, rfl, rfl, ?_⟩
  refine sl_tup (ins_cut ok) ?_
  refine ne_same (ok_strs fun s hs => (insR_good ok s hs).2) (by decide) ?_
  walk_at "if"
  refine ⟨_, _, _, _, rfl, tx.at_, tx.cl _ (by simp), rfl, ?_⟩
  refine ⟨fun hc => absurd hc (by simp [codeTX]), fun _ => ?_⟩
  refine ⟨⟨by omega, by omega, by omega, by omega⟩, ?_⟩
  rw [show ((i : Int) + (n : Int) - (i : Int)).toNat = n by omega]
  refine ⟨fun j E M' => Ext M3 M' ∧ ∃ x12 : Option D, E = [some (.ref a), some (.ref x), some (.ref q), some (.tup (wds ends)), some (.tup [.int i, .int n]), some (.tup (wds st)), some (.int i), some (.int ((i : Int) + (n : Int))), some (.tup (wds (liveAt code ends (i + n)))), some (.ref g), some (.ref t), some (.tup (wds (runS b ((winC code i n).take j) st))), x12, none, none], ⟨Ext.refl _, none, rfl⟩, fun _ _ _ _ => trivial, ?_, ?_⟩
  · rintro j E M' d hd ⟨hx, x12, rfl⟩
    obtain ⟨hj, rfl⟩ := rng_at hd
    have hat := getE (show i + j < code.length by omega)
    have hs := hst _ (List.getElem_mem (show i + j < code.length by omega))
    generalize code[i + j] = s at hat hs
    have hwat : (winC code i n)[j]? = some s := by rw [winC_at hj]; exact hat
    have so' := run_ok ok (code := (winC code i n).take j) (fun y hy => hwst y (List.mem_of_mem_take hy)) so
    refine .inl ⟨_, _, stD s, (x13.trans hx) _ _ hq, rfl, ?_, ?_⟩
    · rw [show ((i : Int) + (j : Int)) = ((i + j : Nat) : Int) by push_cast; rfl]
      exact atI_nat (stepsD_at hat)
    refine ⟨a, aw, ad, b, s, _, rfl, da.ext (x13.trans hx), ok, so', hs, fun M4 x4 => ⟨hx.trans x4, some (.int ((i : Int) + (j : Int))), ?_⟩⟩
    rw [take_snoc hwat, runS_snoc]; rfl
  rintro E M' ⟨hx, x12, rfl⟩
  rw [rng_len, List.take_of_length_le (by omega)]
  have hrun := run_ok ok (code := winC code i n) hwst so
  refine ⟨t, _, st, rfl, tx.ext hx, tok, row_of so, fun M4 x4 => ?_⟩
  rw [outs_sem ok (by rw [hwl]; exact h60) hwst hlive so]
  walk_at "if"
  generalize runS b (winC code i n) st = en at hrun ⊢
  have x5 := x13.trans (hx.trans x4)
  refine fun p2 hp2 => ⟨fun j acc M5 => Ext M4 M5 ∧ M5 p2 = some (.lst acc) ∧ acc = prD ((liveAt code ends (i + n)).take j) en, ⟨Ext.new hp2, updM_same, rfl⟩, fun _ _ _ _ => trivial, ?_, ?_⟩
  · rintro j acc M5 d hd ⟨hx5, m5, rfl⟩
    obtain ⟨r, hr, rfl⟩ := wds_at hd
    have hrl := hlive.lt r (mem_at hr)
    have hll := hlive.len
    refine ⟨fun _ => ⟨_, st_at hrun (by omega), by show 2 ≤ sizeLine; decide, m5, tolist ?_, hx5.mut hp2, updM_same, ?_⟩, fun hc => absurd hc (by decide)⟩
    · unfold prD; rw [List.length_map, List.length_take]; omega
    · rw [take_snoc hr]; unfold prD; rw [List.map_append]; rfl
  rintro acc M5 ⟨hx5, m5, rfl⟩
  rw [wds_len, List.take_length] at m5
  refine ⟨_, m5, ?_⟩
  refine eq_same (ok_prD _ _) (by decide) ?_
  walk_at "if"
  have x6 := x5.trans hx5
  refine eq_lists ((x3.trans (hx.trans (x4.trans hx5))) _ _ mg) (x6 _ _ hq) hoks (by decide) (h M5 x6)
end Rv

set_option Elab.async false
set_option linter.all false
set_option autoImplicit false
set_option maxRecDepth 100000
set_option maxHeartbeats 4000000
/-! readings for k78: rows, steps -/
namespace Rv
open PySem PySem.Spec PyProof.Rows L2 DH Bd Rd Rk
local macro_rules | `(tactic| walk_at "if") => `(tactic| first | (refine ⟨fun _ => ?_, fun hc => absurd hc (by decide)⟩) | (refine ⟨fun hc => absurd hc (by decide), fun _ => ?_⟩))
/-- a loop that appends to the list at p -/
theorem for_app {α : Type} (l : List α) (d : α → D) (f : α → List D) (p : Addr) (A : List D) (P : DEnv → Prop) {g : Tg} {db : DS} {D0 : DEnds} {E : DEnv} {M : Mm} {stay : Mm → Prop}
    (hp : M p = some (.lst A)) (hE : P E) (hstay : ∀ M', But p M M' → stay M')
    (body : ∀ i x E M', l[i]? = some x → But p M M' → M' p = some (.lst (A ++ (l.take i).flatMap f)) → P E → dTg g (d x) E fun E2 => db { nx := fun E3 M3 => But p M M3 ∧ M3 p = some (.lst (A ++ (l.take i).flatMap f ++ f x)) ∧ P E3, rt := D0.rt, bk := D0.nx, ct := fun E3 M3 => But p M M3 ∧ M3 p = some (.lst (A ++ (l.take i).flatMap f ++ f x)) ∧ P E3, xc := D0.xc } E2 M')
    (fin : ∀ E M', But p M M' → M' p = some (.lst (A ++ l.flatMap f)) → P E → D0.nx E M') :
    ∃ I : Nat → DEnv → Mm → Prop, I 0 E M ∧ (∀ i E M, I i E M → stay M) ∧
      (∀ i E M e, (l.map d)[i]? = some e → I i E M → dTg g e E fun E2 => db { nx := I (i + 1), rt := D0.rt, bk := D0.nx, ct := I (i + 1), xc := D0.xc } E2 M) ∧ ∀ E M, I (l.map d).length E M → D0.nx E M := by
  refine ⟨fun i E M' => But p M M' ∧ M' p = some (.lst (A ++ (l.take i).flatMap f)) ∧ P E, ⟨But.refl _ _, by simpa using hp, hE⟩, fun i E M' z => hstay M' z.1, ?_, ?_⟩
  · rintro i E M' e he ⟨hb, hm, hP⟩
    rw [List.getElem?_map] at he
    obtain ⟨x, hx, rfl⟩ := Option.map_eq_some_iff.mp he
    have := body i x E M' hx hb hm hP
    have et : A ++ (l.take (i + 1)).flatMap f = A ++ (l.take i).flatMap f ++ f x := by rw [take_flat f hx, List.append_assoc]
    dsimp only
    rw [et]
    exact this
  · rintro E M' ⟨hb, hm, hP⟩
    rw [List.length_map, List.take_length] at hm
    exact fin E M' hb hm hP
theorem fm_bound {α β : Type} {f : α → List β} {n : Nat} {l : List α} {i : Nat} (h : ∀ x ∈ l, (f x).length ≤ n) : ((l.take i).flatMap f).length ≤ l.length * n := by
  have h1 := fm_le (l := l.take i) (f := f) (n := n) fun x hx => h x (List.mem_of_mem_take hx)
  rw [List.length_take] at h1
  exact Nat.le_trans h1 (Nat.mul_le_mul_right _ (Nat.min_le_right _ _))
theorem fm_one {α β : Type} (g : α → β) : ∀ l : List α, (l.flatMap fun x => [g x]) = l.map g
  | [] => rfl
  | a :: l => by rw [List.flatMap_cons, fm_one g l]; rfl
theorem rngD_eq (n : Nat) : rngD 0 n = (List.range n).map fun i : Nat => D.int i := by
  unfold rngD
  refine List.map_congr_left fun i _ => ?_
  show D.int (0 + (i : Int)) = D.int (i : Int)
  rw [Int.zero_add]
/-! ### rows -/
def sp_lrows3 : DSp := fun ds M Q _ => ∃ (q : Addr) (r n : Nat), ds = [.ref q, .int n] ∧ M q = some (.lst (natsD r)) ∧ r ≤ 4 ∧ n ≤ 3 ∧ RetL M Q (rowsD (srcRows r n))
theorem r__law_rows_v3 : ∀ ds M Q E, sp_lrows3 ds M Q E → b__law_rows_v3 (En Q) (startD 7 ds) M := by
  rintro ds M Q E ⟨q, r, n, rfl, hq, hr, hn, h⟩
  refine ⟨by show 0 ≤ sizeLine; decide, by show 1 ≤ sizeLine; decide, fun p hp => ?_⟩
  refine ⟨by omega, by omega, ?_⟩
  refine ⟨fun i E M' => Ext M M' ∧ ∃ p x3 x4 x5 x6, M p = none ∧ M' p = some (.lst (rowsD (srcRows r i))) ∧ E = [some (.ref q), some (.int n), some (.ref p), x3, x4, x5, x6], ⟨Ext.new hp, p, none, none, none, none, hp, updM_same, rfl⟩, fun _ _ _ _ => trivial, ?_, ?_⟩
  · rintro i E M' d hd ⟨hx, p, x3, x4, x5, x6, hp, hm, rfl⟩
    obtain ⟨hi, rfl⟩ := rng_at hd
    have hi : i < n := by have : i < (n : Int).toNat := hi; omega
    rw [Int.zero_add]
    have hlen := srcRows_len r hr i (by omega)
    refine ⟨Nat.zero_le _, fun p4 hp4 => ?_⟩
    have x4 := Ext.new (o := .lst []) hp4
    have m4 : updM M' p4 (.lst []) p4 = some (.lst []) := updM_same
    generalize updM M' p4 (.lst []) = M1 at x4 m4 ⊢
    have nq : q ≠ p4 := Ext.ne (hx _ _ hq) hp4
    have np : p ≠ p4 := Ext.ne hm hp4
    refine ⟨_, x4 _ _ hm, ?_⟩
    refine for_app (srcRows r i) (fun row => .tup (wds row)) (fun row => rowsD ((List.range r).map fun x => row ++ [x])) p4 [] (fun E => ∃ x5 x6, E = [some (.ref q), some (.int n), some (.ref p), some (.int (i : Nat)), some (.ref p4), x5, x6]) m4 ⟨_, _, rfl⟩ (fun M2 hb => hb _ _ np (x4 _ _ hm)) ?_ ?_
    · rintro j row E M2 hrow hb hm2 ⟨x5, x6, rfl⟩
      have hq2 := hb _ _ nq (x4 _ _ (hx _ _ hq))
      refine ⟨_, hq2, ?_⟩
      have hw := srcRows_row r i row (mem_at hrow)
      have hbd := fm_bound (l := srcRows r i) (f := fun row => rowsD ((List.range r).map fun x => row ++ [x])) (n := 4) (i := j) fun x _ => by rw [rowsD_len, List.length_map, List.length_range]; exact hr
      have hB : (([] : List D) ++ ((srcRows r i).take j).flatMap (fun row => rowsD ((List.range r).map fun x => row ++ [x]))).length ≤ 1000 := by rw [List.nil_append]; omega
      generalize ([] : List D) ++ ((srcRows r i).take j).flatMap (fun row => rowsD ((List.range r).map fun x => row ++ [x])) = B at hm2 hB ⊢
      refine for_app (List.range r) (fun x : Nat => D.int x) (fun x => [.tup (wds (row ++ [x]))]) p4 B (fun E => ∃ x6, E = [some (.ref q), some (.int n), some (.ref p), some (.int (i : Nat)), some (.ref p4), some (.tup (wds row)), x6]) hm2 ⟨_, rfl⟩ (fun M3 hb3 => hb3 _ _ nq hq2) ?_ ?_
      · rintro k x E M3 hx3 hb3 hm3 ⟨x6, rfl⟩
        have hbd2 := fm_bound (l := List.range r) (f := fun x => [D.tup (wds (row ++ [x]))]) (n := 1) (i := k) fun x _ => Nat.le_refl _
        rw [List.length_range] at hbd2
        refine ⟨⟨_, hm3⟩, by show 1 ≤ sizeLine; decide, ?_, _, hm3, tolist ?_, hb3.set, ?_, _, rfl⟩
        · show (wds row).length + 1 ≤ sizeLine
          rw [List.length_map, hw]
          exact Nat.le_of_lt (tolist (by omega))
        · rw [List.length_append]; omega
        · rw [updM_same]
          show some (MO.lst (_ ++ [D.tup (wds row ++ [D.int (x : Nat)])])) = _
          rw [← wds_snoc]
      · rintro E M3 hb3 hm3 ⟨x6, rfl⟩
        refine ⟨hb.trans hb3, ?_, _, _, rfl⟩
        rw [hm3, fm_one]
        unfold rowsD
        rw [List.map_map]; rfl
    · rintro E M2 hb hm2 ⟨x5, x6, rfl⟩
      refine ⟨Ext.but (hx.trans x4) hb (hx.back hp4), p4, _, _, _, _, hx.back hp4, ?_, rfl⟩
      rw [hm2, List.nil_append]
      unfold rowsD
      simp only [srcRows]
      rw [List.map_flatMap]
  · rintro E M' ⟨hx, p, x3, x4, x5, x6, hp, hm, rfl⟩
    rw [rng_len, show ((n : Nat) : Int).toNat = n by omega] at hm
    exact h p M' hp hx hm
end Rv

set_option Elab.async false
set_option linter.all false
set_option autoImplicit false
set_option maxRecDepth 100000
set_option maxHeartbeats 4000000
/-! readings for k78: the law's steps -/
namespace Rv
open PySem PySem.Spec PyProof.Rows L2 DH Bd Rd Rk
local macro_rules | `(tactic| walk_at "if") => `(tactic| first | (refine ⟨fun _ => ?_, fun hc => absurd hc (by decide)⟩) | (refine ⟨fun hc => absurd hc (by decide), fun _ => ?_⟩))
def b_st2 (s__law_rows : DSp) : DS := dFor (dIter (dCall s__law_rows (dCons (dLstRg (dVar 1)) (dCons (dOp oAdd (dL oInt1 (dCons (dOp (oIn false) (dC (.str "a")) (dVar 6)) (dNil))) (dL oInt1 (dCons (dOp (oIn false) (dC (.str "b")) (dVar 6)) (dNil)))) (dNil))))) (.nm 8) (dFor (dIter (dVar 7)) (.nm 9) (dFor (dRng1 (dCons (dVar 1) (dNil))) (.nm 10) (dDrop (dApp (dVar 2) (dTup (dCons (dVar 3) (dCons (dVar 8) (dCons (dVar 9) (dCons (dVar 10) (dNil))))))))))
theorem stepsD_fm {α : Type} (l : List α) (f : α → List ST) : stepsD (l.flatMap f) = l.flatMap fun x => stepsD (f x) := by unfold stepsD; rw [List.map_flatMap]
abbrev EnvS2 (a p pn pw : Addr) (r : Nat) (d : Str × Nat × D) (x8 x9 x10 : Option D) : DEnv := [some (.ref a), some (.int r), some (.ref p), some (.str d.1), some (.int (d.2.1 : Nat)), some d.2.2, some (.ref pn), some (.ref pw), x8, x9, x10]
theorem t_st2 {a p pn pw : Addr} {b : BK} {d : Str × Nat × D} {M : Mm} {A : List D} {D0 : DEnds} {x8 x9 x10 : Option D} (ok : b.Ok) (fo : FmOk d.2.2) (hA : A.length ≤ 1000000) (hp : M p = some (.lst A)) (hn : M pn = some (.lst ((lnamesD d.2.2).map .str))) (hw : M pw = some (.lst (wsD b d.2.2))) (npw : pw ≠ p)
    (k : ∀ M' x8 x9 x10, But p M M' → M' p = some (.lst (A ++ stepsD (deedSteps b d))) → D0.nx (EnvS2 a p pn pw b.r d x8 x9 x10) M') : b_st2 sp_lrows3 D0 (EnvS2 a p pn pw b.r d x8 x9 x10) M := by
  have r4 := ok.r4
  have hsn := srcN_le d.2.2
  have lw := wordsOf_len ok d.2.2
  have ea : decide (("a" : Str) ∈ lnamesD d.2.2) = hasA d.2.2 := by unfold hasA; rw [decide_eq_decide]; exact (mem_lnames _ _).symm
  have eb : decide (("b" : Str) ∈ lnamesD d.2.2) = hasB d.2.2 := by unfold hasB; rw [decide_eq_decide]; exact (mem_lnames _ _).symm
  refine ⟨b.r, rfl, by omega, fun pr hpr => ?_⟩
  have xr := Ext.new (o := .lst (natsD b.r)) hpr
  have mr : updM M pr (.lst (natsD b.r)) pr = some (.lst (natsD b.r)) := updM_same
  generalize updM M pr (.lst (natsD b.r)) = M1 at xr mr ⊢
  refine .inl ⟨_, xr _ _ hn, rfl, flat_strs _, ?_⟩
  rw [inD_strs, ea]
  refine .inl ⟨_, xr _ _ hn, rfl, flat_strs _, ?_⟩
  rw [inD_strs, eb]
  have es : ((if hasA d.2.2 = true then (1 : Int) else 0) + if hasB d.2.2 = true then (1 : Int) else 0) = ((srcN d.2.2 : Nat) : Int) := b2n (hasA d.2.2) (hasB d.2.2)
  refine ⟨pr, b.r, srcN d.2.2, by rw [← es]; rfl, mr, r4, by omega, fun p8 M2 hp8 x2 m8 => ?_⟩
  have x12 := xr.trans x2
  have hp2 := x12 _ _ hp
  have n8 : p8 ≠ p := fun z => by subst z; rw [xr _ _ hp] at hp8; cases hp8
  have hlen := srcRows_len b.r r4 (srcN d.2.2) (by omega)
  refine ⟨_, m8, ?_⟩
  have h1 : ∀ row wd, (stepsD (tgs b d.1 row wd)).length ≤ 4 := fun row wd => by rw [stepsD_len, List.length_map, List.length_range]; exact r4
  have h2 : ∀ row, ((wordsOf b d.2.2).flatMap fun wd => stepsD (tgs b d.1 row wd)).length ≤ 64 := fun row => by
    have := fm_le (l := wordsOf b d.2.2) (f := fun wd => stepsD (tgs b d.1 row wd)) fun wd _ => h1 row wd
    have : (wordsOf b d.2.2).length * 4 ≤ 16 * 4 := Nat.mul_le_mul_right _ lw
    omega
  refine for_app (srcRows b.r (srcN d.2.2)) (fun row => .tup (wds row)) (fun row => (wordsOf b d.2.2).flatMap fun wd => stepsD (tgs b d.1 row wd)) p A (fun E => ∃ x8 x9 x10, E = EnvS2 a p pn pw b.r d x8 x9 x10) hp2 ⟨_, _, _, rfl⟩ (fun M3 hb => hb _ _ n8 m8) ?_ ?_
  · rintro i row E M3 hrow hb hm ⟨x8, x9, x10, rfl⟩
    have hw3 := hb _ _ npw (x12 _ _ hw)
    have hB := fm_bound (l := srcRows b.r (srcN d.2.2)) (f := fun row => (wordsOf b d.2.2).flatMap fun wd => stepsD (tgs b d.1 row wd)) (n := 64) (i := i) fun row _ => h2 row
    have hB : (A ++ ((srcRows b.r (srcN d.2.2)).take i).flatMap fun row => (wordsOf b d.2.2).flatMap fun wd => stepsD (tgs b d.1 row wd)).length ≤ 1010000 := by rw [List.length_append]; omega
    generalize (A ++ ((srcRows b.r (srcN d.2.2)).take i).flatMap fun row => (wordsOf b d.2.2).flatMap fun wd => stepsD (tgs b d.1 row wd)) = B at hm hB ⊢
    refine ⟨_, hw3, ?_⟩
    refine for_app (wordsOf b d.2.2) wdD (fun wd => stepsD (tgs b d.1 row wd)) p B (fun E => ∃ x9 x10, E = EnvS2 a p pn pw b.r d (some (.tup (wds row))) x9 x10) hm ⟨_, _, rfl⟩ (fun M4 hb4 => hb4 _ _ npw hw3) ?_ ?_
    · rintro j wd E M4 hwd hb4 hm4 ⟨x9, x10, rfl⟩
      have hC := fm_bound (l := wordsOf b d.2.2) (f := fun wd => stepsD (tgs b d.1 row wd)) (n := 4) (i := j) fun wd _ => h1 row wd
      have hC : (B ++ ((wordsOf b d.2.2).take j).flatMap fun wd => stepsD (tgs b d.1 row wd)).length ≤ 1020000 := by rw [List.length_append]; omega
      generalize (B ++ ((wordsOf b d.2.2).take j).flatMap fun wd => stepsD (tgs b d.1 row wd)) = C at hm4 hC ⊢
      refine ⟨by omega, by omega, ?_⟩
      rw [show ((b.r : Nat) : Int).toNat = b.r by omega, rngD_eq]
      refine for_app (List.range b.r) (fun t : Nat => D.int t) (fun t => [stD ⟨d.1, row.map Int.ofNat, wd, (t : Int)⟩]) p C (fun E => ∃ x10, E = EnvS2 a p pn pw b.r d (some (.tup (wds row))) (some (wdD wd)) x10) hm4 ⟨_, rfl⟩ (fun _ _ => trivial) ?_ ?_
      · rintro l t E M5 ht hb5 hm5 ⟨x10, rfl⟩
        have hD := fm_bound (l := List.range b.r) (f := fun t : Nat => [stD ⟨d.1, row.map Int.ofNat, wd, (t : Int)⟩]) (n := 1) (i := l) fun t _ => Nat.le_refl _
        rw [List.length_range] at hD
        refine ⟨⟨_, hm5⟩, by show 4 ≤ sizeLine; decide, _, hm5, tolist ?_, hb5.set, ?_, _, rfl⟩
        · rw [List.length_append]; omega
        · rw [updM_same, wds_row]
      · rintro E M5 hb5 hm5 ⟨x10, rfl⟩
        refine ⟨hb4.trans hb5, ?_, _, _, rfl⟩
        rw [hm5, fm_one]
        unfold stepsD tgs
        rw [List.map_map]; rfl
    · rintro E M4 hb4 hm4 ⟨x9, x10, rfl⟩
      exact ⟨hb.trans hb4, hm4, _, _, _, rfl⟩
  · rintro E M3 hb hm ⟨x8, x9, x10, rfl⟩
    refine k M3 _ _ _ ((But.ofExt x12).trans hb) ?_
    rw [hm]
    unfold deedSteps
    rw [stepsD_fm]
    simp only [stepsD_fm]
def sp_lsteps2 : DSp := fun ds M Q _ => ∃ (a aw ad : Addr) (b : BK), ds = [.ref a, .int b.r] ∧ DaB M a aw ad b ∧ b.Ok ∧ RetL M Q (stepsD b.steps)
theorem r__law_steps_v2 : ∀ ds M Q E, sp_lsteps2 ds M Q E → b__law_steps_v2 (sp_lnames2 8) sp_lrows3 (En Q) (startD 11 ds) M := by
  rintro ds M Q E ⟨a, aw, ad, b, rfl, da, ok, h⟩
  have r4 := ok.r4
  have d6 := ok.d6
  refine ⟨by show 0 ≤ sizeLine; decide, fun p hp => ?_⟩
  have pm : updM M p (.lst []) p = some (.lst []) := updM_same
  have xp : Ext M (updM M p (.lst [])) := Ext.new hp
  have hap : a ≠ p := Ext.ne da.h0 hp
  have haw : aw ≠ p := Ext.ne da.h1 hp
  have had : ad ≠ p := Ext.ne da.h2 hp
  generalize updM M p (.lst []) = M0 at pm xp ⊢
  have da0 := da.ext xp
  refine .inl ⟨_, _, .ref ad, da0.h0, rfl, rfl, _, da0.h2, ?_⟩
  refine for_app b.deeds deedD (fun d => stepsD (deedSteps b d)) p [] (fun E => ∃ x3 x4 x5 x6 x7 x8 x9 x10, E = [some (.ref a), some (.int b.r), some (.ref p), x3, x4, x5, x6, x7, x8, x9, x10]) pm ⟨_, _, _, _, _, _, _, _, rfl⟩ (fun M1 hb => hb _ _ had da0.h2) ?_ ?_
  · rintro i d E M1 hd hb hm ⟨x3, x4, x5, x6, x7, x8, x9, x10, rfl⟩
    have fo := ok.fmOk (mem_at hd)
    have da1 := da0.but hb hap haw had
    have hB := fm_bound (l := b.deeds) (f := fun d => stepsD (deedSteps b d)) (n := 6400) (i := i) fun d _ => by rw [stepsD_len]; exact deedSteps_len ok d
    have hB : (([] : List D) ++ (b.deeds.take i).flatMap fun d => stepsD (deedSteps b d)).length ≤ 1000000 := by rw [List.nil_append]; omega
    generalize (([] : List D) ++ (b.deeds.take i).flatMap fun d => stepsD (deedSteps b d)) = B at hm hB ⊢
    refine ⟨rfl, ?_⟩
    refine ⟨d.2.2, rfl, fo.tr, by have := fo.de; omega, fo.sz, fun pn M2 hpn x2 hnm => ?_⟩
    refine ⟨by show 1 ≤ sizeLine; decide, fun q hq => ?_⟩
    have xq : Ext M2 (updM M2 q (.lst [.non])) := Ext.new hq
    have qm : updM M2 q (.lst [.non]) q = some (.lst [.non]) := updM_same
    have hqp : q ≠ p := Ne.symm (Ext.ne (x2 _ _ hm) hq)
    generalize updM M2 q (.lst [.non]) = M3 at xq qm ⊢
    have x13 := x2.trans xq
    have ek : decide (("k" : Str) ∈ lnamesD d.2.2) = hasK d.2.2 := by unfold hasK; rw [decide_eq_decide]; exact (mem_lnames _ _).symm
    refine .inl ⟨_, xq _ _ hnm, rfl, flat_strs _, ?_⟩
    rw [inD_strs, ek]
    have da3 := da1.ext x13
    refine ⟨fun hk => ?_, fun hk => ?_⟩
    · have hk : hasK d.2.2 = true := hk
      refine .inl ⟨_, _, .ref aw, da3.h0, rfl, rfl, ?_⟩
      exact t_st2 ok fo hB (x13 _ _ hm) (xq _ _ hnm) (by rw [da3.h1, wsD_yes hk]) haw fun M4 y8 y9 y10 b4 m4 => ⟨hb.trans ((But.ofExt x13).trans b4), m4, _, _, _, _, _, _, _, _, rfl⟩
    · have hk : hasK d.2.2 = false := hk
      exact t_st2 ok fo hB (x13 _ _ hm) (xq _ _ hnm) (by rw [qm, wsD_no hk]) hqp fun M4 y8 y9 y10 b4 m4 => ⟨hb.trans ((But.ofExt x13).trans b4), m4, _, _, _, _, _, _, _, _, rfl⟩
  · rintro E M1 hb hm ⟨x3, x4, x5, x6, x7, x8, x9, x10, rfl⟩
    refine h p M1 hp (Ext.but xp hb hp) ?_
    rw [hm, List.nil_append]
    unfold BK.steps
    rw [stepsD_fm]
end Rv

set_option Elab.async false
set_option linter.all false
set_option autoImplicit false
set_option maxRecDepth 100000
set_option maxHeartbeats 4000000
/-! readings for k78: spoilt steps, drawn formulas, drawn books -/
namespace Rv
open PySem PySem.Spec PyProof.Rows L2 DH Bd Rd Rk
local macro_rules | `(tactic| walk_at "if") => `(tactic| first | (refine ⟨fun _ => ?_, fun hc => absurd hc (by decide)⟩) | (refine ⟨fun hc => absurd hc (by decide), fun _ => ?_⟩))
/-! ### spoilt steps -/
theorem r__law_spoilt_v3 : ∀ ds M Q E, sp_lspoilt ds M Q E → b__law_spoilt_v3 sp_take (En Q) (startD 5 ds) M := by
  rintro ds M Q E ⟨p, c, a, aw, ad, b, ⟨nm, src, wd, tg⟩, rfl, dw, da, n0, n1, n2, ok, hs, hz, h⟩
  obtain ⟨d, f⟩ := step_inv hs
  have sl2 : src.length ≤ 2 := step_src hs
  have snm : nm.length ≤ 1000 ∧ PyData.strOk nm = true := by
    have := (ok.nm d f.mem).2
    rw [find_nm f.find] at this; exact this
  refine ⟨p, c, 5, rfl, by decide, dw, fun r hr M1 d1 => ?_⟩
  have da1 := da.go d1 n0 n1 n2
  have ret : ∀ s' : ST, s'.nm = nm → (StepF b s' d → False) → s'.src.length ≤ 10 → Q (stD s') M1 := fun s' hn hf hl => h s' M1 (not_step f hn hf) hl (by rw [hn]; exact snm) d1
  have fsl : src.length = srcN d.2.2 := f.sl
  have fk : hasK d.2.2 = wd.isSome := f.hk
  have hsz := sp_sz sl2
  have last : (dSeq (dIf (dtB (dOp (oIs false) (dOp oIx (dVar 3) (dC (.int 2))) (dC .non))) (dRet (dTup (dCons (dOp oIx (dVar 3) (dC (.int 0))) (dCons (dOp oIx (dVar 3) (dC (.int 1))) (dCons (dC (.int 0)) (dCons (dOp oIx (dVar 3) (dC (.int 3))) (dNil))))))) (dNext)) (dRet (dTup (dCons (dOp oIx (dVar 3) (dC (.int 0))) (dCons (dOp oIx (dVar 3) (dC (.int 1))) (dCons (dC .non) (dCons (dOp oIx (dVar 3) (dC (.int 3))) (dNil)))))))) (En Q) [some (.ref p), some (.ref c), some (.ref a), some (stD ⟨nm, src, wd, tg⟩), some (.int (r : Nat))] M1 := by
    refine ⟨wdD wd, rfl, ?_⟩
    cases wd with
    | none =>
      refine ⟨fun _ => ?_, fun hc => absurd hc (by decide)⟩
      exact ⟨_, at0, .tup (src.map .int), rfl, .int tg, rfl, by show 4 ≤ sizeLine; decide, ret ⟨nm, src, some 0, tg⟩ rfl (fun g => by have h := g.hk; rw [fk] at h; simp at h) (by show src.length ≤ 10; omega)⟩
    | some v =>
      refine ⟨fun hc => absurd hc (by simp [nonD, wdD]), fun _ => ?_⟩
      exact ⟨_, at0, .tup (src.map .int), rfl, .int tg, rfl, by show 4 ≤ sizeLine; decide, ret ⟨nm, src, none, tg⟩ rfl (fun g => by have h := g.hk; rw [fk] at h; simp at h) (by show src.length ≤ 10; omega)⟩
  refine ⟨fun _ => ?_, fun _ => ?_⟩
  · refine ⟨.tup (src.map .int), rfl, wdD wd, rfl, .int tg, rfl, by show 4 ≤ sizeLine; decide, ?_⟩
    refine h ⟨"zz", src, wd, tg⟩ M1 ?_ (by show src.length ≤ 10; omega) ⟨by show ("zz" : Str).length ≤ 1000; decide, by show PyData.strOk ("zz" : Str) = true; decide +kernel⟩ d1
    unfold isStep
    show (match b.find "zz" with
      | none => false
      | some d => stepOk b ⟨"zz", src, wd, tg⟩ d.2.2) = false
    rw [hz]
  refine ⟨fun _ => ?_, fun _ => ?_⟩
  · refine ⟨_, at0, .tup (src.map .int), rfl, wdD wd, rfl, .inl ⟨_, _, .int b.r, da1.h0, rfl, rfl, by show 4 ≤ sizeLine; decide, ?_⟩⟩
    exact ret ⟨nm, src, wd, b.r⟩ rfl (fun g => by have h : (b.r : Int) < (b.r : Int) := g.tr; omega) (by show src.length ≤ 10; omega)
  refine ⟨fun _ => ?_, fun _ => ?_⟩
  · refine ⟨_, at0, .tup (src.map .int), rfl, by show 1 ≤ sizeLine; decide, by show (src.map D.int).length + 1 ≤ sizeLine; rw [List.length_map]; omega, wdD wd, rfl, .int tg, rfl, by show 4 ≤ sizeLine; decide, ?_⟩
    have := ret ⟨nm, src ++ [0], wd, tg⟩ rfl (fun g => by have h : (src ++ [(0 : Int)]).length = srcN d.2.2 := g.sl; simp at h; omega) (by show (src ++ [(0 : Int)]).length ≤ 10; simp; omega)
    unfold stD at this
    rw [List.map_append] at this
    exact this
  refine ⟨fun _ => ?_, fun _ => ?_⟩
  · refine ⟨.tup (src.map .int), rfl, ⟨fun hc => ?_, fun _ => last⟩⟩
    have hp := sp_pos hc
    have := ret ⟨nm, src.drop 1 ++ [(-1 : Int)], wd, tg⟩ rfl (fun g => by have := (g.src (-1 : Int) (by simp)).1; omega) (by show (src.drop 1 ++ [(-1 : Int)]).length ≤ 10; simp; omega)
    unfold stD at this
    rw [List.map_append, ← sp_cut] at this
    refine ⟨_, at0, .tup (src.map .int), rfl, by show 1 ≤ sizeLine; decide, ?_⟩
    exact ⟨by rw [sp_cut]; show ((src.drop 1).map D.int).length + 1 ≤ sizeLine; rw [List.length_map, List.length_drop]; omega, wdD wd, rfl, .int tg, rfl, by show 4 ≤ sizeLine; decide, this⟩
  · exact ⟨fun hc => absurd hc (by decide), fun _ => last⟩
/-! ### drawn formulas -/
structure FQ (w d s : Nat) (f : D) : Prop where
  wf : wfD w abk f = true
  de : depthD f ≤ d
  sz : sizeD f ≤ s
section
variable {w d d' s s' : Nat} {f x y : D} {o : Op}
theorem fq_two (h2 : o.ar = 2) (hx : FQ w d s x) (hy : FQ w d s' y) : FQ w (d + 1) (1 + s + s') (.tup [.str o.nm, x, y]) := by
  refine ⟨wf2 h2 hx.wf hy.wf, ?_, ?_⟩
  · rw [two_depth]; have := hx.de; have := hy.de; omega
  · rw [two_size]; have := hx.sz; have := hy.sz; omega
theorem fq_one (h1 : o.ar = 1) (hx : FQ w d s x) : FQ w (d + 1) (1 + s) (.tup [.str o.nm, x]) := by
  refine ⟨wf1 h1 hx.wf, ?_, ?_⟩
  · have : depthD (.tup [.str o.nm, x]) = max (depthD x) 0 + 1 := by simp only [depthD, depthDs]
    rw [this]; have := hx.de; omega
  · have : sizeD (.tup [.str o.nm, x]) = 1 + (sizeD x + 0) := by simp only [sizeD, sizeDs]
    rw [this]; have := hx.sz; omega
theorem fq_str {t : Str} (h : t ∈ abk) : FQ w 0 1 (.str t) := ⟨wfa h, Nat.zero_le _, by simp [sizeD]⟩
theorem fq_int {n : Nat} (h : n < 2 ^ w) : FQ w 0 1 (.int n) := by
  refine ⟨?_, Nat.zero_le _, by simp [sizeD]⟩
  simp only [wfD]
  rw [decide_eq_true (by omega : (0 : Int) ≤ (n : Int)), decide_eq_true (by exact_mod_cast h)]; rfl
theorem FQ.mono (h : FQ w d s f) (hd : d ≤ d') (hs : s ≤ s') : FQ w d' s' f := ⟨h.wf, Nat.le_trans h.de hd, Nat.le_trans h.sz hs⟩
end
theorem ba_of {f : D} (h : ("b" : Str) ∈ lnamesD f → ("a" : Str) ∈ lnamesD f) (hb : hasB f = true) : hasA f = true := by
  unfold hasA hasB at *
  have := (mem_lnames _ _).mp (of_decide_eq_true hb)
  exact decide_eq_true ((mem_lnames _ _).mpr (h this))
/-- a formula of a deed -/
structure FmG (w : Nat) (f : D) : Prop where
  q : FQ w 2 9 f
  ba : hasB f = true → hasA f = true
theorem FmG.fm {w : Nat} {f : D} (h : FmG w f) : FmOk f := ⟨wf_tree _ h.q.wf, by have := h.q.de; omega, by have := h.q.sz; omega⟩
theorem ops11_ok : ∀ r : Fin 11, ∃ o : Op, o.ar = 2 ∧ ([.str "add", .str "xor", .str "and", .str "or", .str "sub", .str "mul", .str "shl", .str "shr", .str "eq", .str "lt", .str "slt"] : List D)[r.1]? = some (.str o.nm) := fun r => match r with
  | ⟨0, _⟩ => ⟨.add, rfl, rfl⟩
  | ⟨1, _⟩ => ⟨.xor, rfl, rfl⟩
  | ⟨2, _⟩ => ⟨.and, rfl, rfl⟩
  | ⟨3, _⟩ => ⟨.or, rfl, rfl⟩
  | ⟨4, _⟩ => ⟨.sub, rfl, rfl⟩
  | ⟨5, _⟩ => ⟨.mul, rfl, rfl⟩
  | ⟨6, _⟩ => ⟨.shl, rfl, rfl⟩
  | ⟨7, _⟩ => ⟨.shr, rfl, rfl⟩
  | ⟨8, _⟩ => ⟨.eq, rfl, rfl⟩
  | ⟨9, _⟩ => ⟨.lt, rfl, rfl⟩
  | ⟨10, _⟩ => ⟨.slt, rfl, rfl⟩
theorem three_at {x y z : D} {r : Nat} (h : r < 3) : ∃ d, ([x, y, z] : List D)[r]? = some d ∧ (d = x ∨ d = y ∨ d = z) := match r, h with
  | 0, _ => ⟨_, rfl, .inl rfl⟩
  | 1, _ => ⟨_, rfl, .inr (.inl rfl)⟩
  | 2, _ => ⟨_, rfl, .inr (.inr rfl)⟩
theorem four_at {x y z u : D} {r : Nat} (h : r < 4) : ∃ d, ([x, y, z, u] : List D)[r]? = some d ∧ (d = x ∨ d = y ∨ d = z ∨ d = u) := match r, h with
  | 0, _ => ⟨_, rfl, .inl rfl⟩
  | 1, _ => ⟨_, rfl, .inr (.inl rfl)⟩
  | 2, _ => ⟨_, rfl, .inr (.inr (.inl rfl))⟩
  | 3, _ => ⟨_, rfl, .inr (.inr (.inr rfl))⟩
theorem pick_fq {w : Nat} : FQ w 2 9 (.tup [.str "pick", .str "a", .str "b", .str "k"]) := by
  refine ⟨?_, by decide, by decide⟩
  have h : wfD w abk (.tup [.str Op.pick.nm, .str "a", .str "b", .str "k"]) = true := by
    simp only [wfD, opOf_of, wfDs]
    decide
  exact h
def sp_lform : DSp := fun ds M Q _ => ∃ (p c : Addr) (w : Nat), ds = [.ref p, .ref c, .int w] ∧ Dw p c M ∧ 1 ≤ w ∧ w ≤ 4 ∧ ∀ f M', FmG w f → Dr c M M' → Q f M'
theorem r__law_formula_v3 : ∀ ds M Q E, sp_lform ds M Q E → b__law_formula_v3 sp_take (En Q) (startD 7 ds) M := by
  rintro ds M Q E ⟨p, c, w, rfl, dw, w1, w4, h⟩
  have sa : ("a" : Str) ∈ abk := by decide
  have sb : ("b" : Str) ∈ abk := by decide
  have sk : ("k" : Str) ∈ abk := by decide
  have fa := fq_str (w := w) sa
  have fb := fq_str (w := w) sb
  have fk := fq_str (w := w) sk
  have hpow : (1 : Int) * 2 ^ ((w : Int)).toNat = ((2 ^ w : Nat) : Int) := pow_cast w
  refine ⟨p, c, 8, rfl, by decide, dw, fun kind hk M1 d1 => ?_⟩
  have dw1 := dw.go d1
  refine ⟨by show 11 ≤ sizeLine; decide, fun q hq => ?_⟩
  have xq := Ext.new (o := .lst [.str "add", .str "xor", .str "and", .str "or", .str "sub", .str "mul", .str "shl", .str "shr", .str "eq", .str "lt", .str "slt"]) hq
  have qm : updM M1 q (.lst [.str "add", .str "xor", .str "and", .str "or", .str "sub", .str "mul", .str "shl", .str "shr", .str "eq", .str "lt", .str "slt"]) q = some (.lst [.str "add", .str "xor", .str "and", .str "or", .str "sub", .str "mul", .str "shl", .str "shr", .str "eq", .str "lt", .str "slt"]) := updM_same
  have hqc := dw1.cne hq
  generalize updM M1 q (.lst [.str "add", .str "xor", .str "and", .str "or", .str "sub", .str "mul", .str "shl", .str "shr", .str "eq", .str "lt", .str "slt"]) = M2 at xq qm ⊢
  have dw2 := dw1.go (.ofExt xq)
  refine ⟨p, c, 11, rfl, by decide, dw2, fun r hr M3 d3 => ?_⟩
  obtain ⟨o, ho, hat⟩ := ops11_ok ⟨r, hr⟩
  refine .inl ⟨_, _, .str o.nm, d3.ex _ _ hqc qm, rfl, atI_nat hat, ?_⟩
  have dw3 := dw2.go d3
  refine ⟨cpow w (by omega) (by decide), ?_⟩
  refine ⟨p, c, 2 ^ w, by rw [← hpow], Nat.two_pow_pos _, dw3, fun n hn M4 d4 => ?_⟩
  have fn := fq_int hn
  have d04 := d1.trans ((Dr.ofExt xq).trans (d3.trans d4))
  have dw4 := dw3.go d4
  refine ⟨fun _ => ?_, fun _ => ?_⟩
  · exact ⟨by show 3 ≤ sizeLine; decide, h _ _ ⟨(fq_two ho fa fk).mono (by decide) (by decide), ba_of (by simp [lnamesD, lnamesDs])⟩ d04⟩
  refine ⟨fun _ => ?_, fun _ => ?_⟩
  · refine ⟨by show 2 ≤ sizeLine; decide, by show 2 ≤ sizeLine; decide, by show 3 ≤ sizeLine; decide, fun q2 hq2 => ?_⟩
    refine ⟨by show (0 : Int) < 3; decide, ?_⟩
    obtain ⟨f, hf, hc⟩ := three_at (x := .str "k") (y := .tup [.str "not", .str "k"]) (z := .tup [.str "neg", .str "k"]) (show n % 3 < 3 from Nat.mod_lt _ (by decide))
    refine .inl ⟨_, _, f, updM_same, rfl, ?_, ?_⟩
    · rw [show (n : Int) % 3 = ((n % 3 : Nat) : Int) by omega]
      exact atI_nat hf
    · refine h _ _ ?_ (d04.trans (Dr.new hq2))
      rcases hc with rfl | rfl | rfl
      · exact ⟨fk.mono (by decide) (by decide), fun z => absurd z (by decide)⟩
      · exact ⟨(fq_one (o := .not) rfl fk).mono (by decide) (by decide), fun z => absurd z (by decide)⟩
      · exact ⟨(fq_one (o := .neg) rfl fk).mono (by decide) (by decide), fun z => absurd z (by decide)⟩
  refine ⟨fun _ => ?_, fun _ => ?_⟩
  · exact ⟨by show 3 ≤ sizeLine; decide, h _ _ ⟨(fq_two ho fa fb).mono (by decide) (by decide), ba_of (by simp [lnamesD, lnamesDs])⟩ d04⟩
  refine ⟨fun _ => ?_, fun _ => ?_⟩
  · refine ⟨by show 2 ≤ sizeLine; decide, by show 2 ≤ sizeLine; decide, by show 3 ≤ sizeLine; decide, by show 4 ≤ sizeLine; decide, fun q2 hq2 => ?_⟩
    have x2 := Ext.new (o := .lst [.str "a", .tup [.str "not", .str "a"], .tup [.str "neg", .str "a"], .tup [.str o.nm, .str "a", .int n]]) hq2
    have m2 : updM M4 q2 (.lst [.str "a", .tup [.str "not", .str "a"], .tup [.str "neg", .str "a"], .tup [.str o.nm, .str "a", .int n]]) q2 = some (.lst [.str "a", .tup [.str "not", .str "a"], .tup [.str "neg", .str "a"], .tup [.str o.nm, .str "a", .int n]]) := updM_same
    have h2c := dw4.cne hq2
    generalize updM M4 q2 (.lst [.str "a", .tup [.str "not", .str "a"], .tup [.str "neg", .str "a"], .tup [.str o.nm, .str "a", .int n]]) = M5 at x2 m2 ⊢
    refine ⟨p, c, 4, rfl, by decide, dw4.go (.ofExt x2), fun r2 hr2 M6 d6 => ?_⟩
    obtain ⟨f, hf, hc⟩ := four_at (x := .str "a") (y := .tup [.str "not", .str "a"]) (z := .tup [.str "neg", .str "a"]) (u := .tup [.str o.nm, .str "a", .int n]) hr2
    refine .inl ⟨_, _, f, d6.ex _ _ h2c m2, rfl, atI_nat hf, ?_⟩
    refine h _ _ ?_ (d04.trans ((Dr.ofExt x2).trans d6))
    rcases hc with rfl | rfl | rfl | rfl
    · exact ⟨fa.mono (by decide) (by decide), fun z => absurd z (by decide)⟩
    · exact ⟨(fq_one (o := .not) rfl fa).mono (by decide) (by decide), fun z => absurd z (by decide)⟩
    · exact ⟨(fq_one (o := .neg) rfl fa).mono (by decide) (by decide), fun z => absurd z (by decide)⟩
    · exact ⟨(fq_two ho fa fn).mono (by decide) (by decide), ba_of (by simp [lnamesD, lnamesDs])⟩
  refine ⟨fun _ => ?_, fun _ => ?_⟩
  · refine ⟨by show 3 ≤ sizeLine; decide, by show 3 ≤ sizeLine; decide, h _ _ ⟨(fq_two ho (fq_two (o := .xor) rfl fa fk) (fn.mono (Nat.zero_le _) (Nat.le_refl _))).mono (by decide) (by decide), ba_of (by simp [lnamesD, lnamesDs])⟩ d04⟩
  · refine ⟨by show 4 ≤ sizeLine; decide, by show 3 ≤ sizeLine; decide, by show 3 ≤ sizeLine; decide, by show 3 ≤ sizeLine; decide, fun q2 hq2 => ?_⟩
    have x2 := Ext.new (o := .lst [.tup [.str "pick", .str "a", .str "b", .str "k"], .tup [.str o.nm, .str "b", .tup [.str "add", .str "a", .str "k"]], .int n]) hq2
    have m2 : updM M4 q2 (.lst [.tup [.str "pick", .str "a", .str "b", .str "k"], .tup [.str o.nm, .str "b", .tup [.str "add", .str "a", .str "k"]], .int n]) q2 = some (.lst [.tup [.str "pick", .str "a", .str "b", .str "k"], .tup [.str o.nm, .str "b", .tup [.str "add", .str "a", .str "k"]], .int n]) := updM_same
    have h2c := dw4.cne hq2
    generalize updM M4 q2 (.lst [.tup [.str "pick", .str "a", .str "b", .str "k"], .tup [.str o.nm, .str "b", .tup [.str "add", .str "a", .str "k"]], .int n]) = M5 at x2 m2 ⊢
    refine ⟨p, c, 3, rfl, by decide, dw4.go (.ofExt x2), fun r2 hr2 M6 d6 => ?_⟩
    obtain ⟨f, hf, hc⟩ := three_at (x := .tup [.str "pick", .str "a", .str "b", .str "k"]) (y := .tup [.str o.nm, .str "b", .tup [.str "add", .str "a", .str "k"]]) (z := .int n) hr2
    refine .inl ⟨_, _, f, d6.ex _ _ h2c m2, rfl, atI_nat hf, ?_⟩
    refine h _ _ ?_ (d04.trans ((Dr.ofExt x2).trans d6))
    rcases hc with rfl | rfl | rfl
    · exact ⟨pick_fq, ba_of (by simp [lnamesD, lnamesDs])⟩
    · exact ⟨(fq_two ho (fb.mono (Nat.zero_le _) (Nat.le_refl _)) (fq_two (o := .add) rfl fa fk)).mono (by decide) (by decide), ba_of (by simp [lnamesD, lnamesDs])⟩
    · exact ⟨fn.mono (by decide) (by decide), ba_of (by simp [lnamesD, lnamesDs])⟩
end Rv

set_option Elab.async false
set_option linter.all false
set_option autoImplicit false
set_option maxRecDepth 100000
set_option maxHeartbeats 4000000
/-! readings for k78: a drawn book -/
namespace Rv
open PySem PySem.Spec PyProof.Rows L2 DH Bd Rd Rk
local macro_rules | `(tactic| walk_at "if") => `(tactic| first | (refine ⟨fun _ => ?_, fun hc => absurd hc (by decide)⟩) | (refine ⟨fun hc => absurd hc (by decide), fun _ => ?_⟩))
def b_bqA (s__law_take : DSp) : DS := dSeq (dAsg (dOp oAdd (dC (.int 1)) (dCall s__law_take (dCons (dVar 0) (dCons (dVar 1) (dCons (dC (.int 9)) (dNil)))))) (.nm 12)) (dDrop (dApp (dVar 9) (dTup (dCons (dOp oIx (dLst (dCons (dC (.str "add")) (dCons (dC (.str "x")) (dCons (dC (.str "nand1")) (dCons (dC (.str "shlk")) (dCons (dC (.str "q7")) (dCons (dC (.str "set")) (dNil)))))))) (dOp oMod (dOp oAdd (dVar 10) (dVar 8)) (dC (.int 6)))) (dCons (dVar 12) (dCons (dVar 11) (dNil)))))))
def b_bqB (s__law_take s__law_formula s__law_names : DSp) : DS := dSeq (dAsg (dCall s__law_formula (dCons (dVar 0) (dCons (dVar 1) (dCons (dVar 2) (dNil))))) (.nm 11)) (dSeq (dIf (dtAnd (dtB (dOp oEq (dVar 10) (dVar 7))) (dtB (dOp (oIn false) (dC (.str "k")) (dCall s__law_names (dCons (dVar 11) (dNil)))))) (dAsg (dOp oIx (dLst (dCons (dTup (dCons (dC (.str "not")) (dCons (dC (.str "a")) (dNil)))) (dCons (dTup (dCons (dC (.str "add")) (dCons (dC (.str "a")) (dCons (dC (.str "b")) (dNil))))) (dCons (dC (.int 1)) (dNil))))) (dCall s__law_take (dCons (dVar 0) (dCons (dVar 1) (dCons (dC (.int 3)) (dNil)))))) (.nm 11)) (dNext)) (b_bqA s__law_take))
def b_bqL (s__law_take s__law_formula s__law_names : DSp) : DS := dSeq (dAsg (dOp oAdd (dC (.int 2)) (dCall s__law_take (dCons (dVar 0) (dCons (dVar 1) (dCons (dC (.int 5)) (dNil)))))) (.nm 6)) (dSeq (dAsg (dCall s__law_take (dCons (dVar 0) (dCons (dVar 1) (dCons (dVar 6) (dNil))))) (.nm 7)) (dSeq (dAsg (dCall s__law_take (dCons (dVar 0) (dCons (dVar 1) (dCons (dC (.int 6)) (dNil))))) (.nm 8)) (dSeq (dAsg (dLst (dNil)) (.nm 9)) (dSeq (dFor (dRng1 (dCons (dVar 6) (dNil))) (.nm 10) (b_bqB s__law_take s__law_formula s__law_names)) (dRet (dLst (dCons (dVar 2) (dCons (dVar 3) (dCons (dVar 4) (dCons (dVar 9) (dNil)))))))))))
section
variable {p c q9 q4 : Addr} {M0 M : Mm} {L : List (Str × Nat × D)} {w r cnt base plain k : Nat} {x5 x11 x12 : Option D} {D' : DEnds} {f : D}
abbrev BqE (p c q9 q4 : Addr) (w r cnt plain base : Nat) (k : Nat) (x5 x11 x12 : Option D) : DEnv := [some (.ref p), some (.ref c), some (.int w), some (.int r), some (.ref q4), x5, some (.int cnt), some (.int plain), some (.int base), some (.ref q9), some (.int k), x11, x12]
abbrev BookK2 (p c : Addr) (M : Mm) (Q : DQ) : Prop := ∀ (a aw ad : Addr) (b : BK) (M' : Mm), b.Ok → NmZ b → (∃ d ∈ b.deeds, hasK d.2.2 = false) → DaB M' a aw ad b → a ≠ c → aw ≠ c → ad ≠ c → Dr c M M' → Q (.ref a) M'
abbrev BqK (p c q9 q4 : Addr) (M0 : Mm) (L : List (Str × Nat × D)) (w r cnt plain base k : Nat) (x5 : Option D) (D' : DEnds) : Prop := ∀ M' d x11 x12, BkI p c q9 M0 M' L → DeedF w d → d.1 = names6.getD ((k + base) % 6) "" → (k = plain → hasK d.2.2 = false) → ∀ M2, M2 = updM M' q9 (.lst ((L ++ [d]).map deedD)) → D'.nx (BqE p c q9 q4 w r cnt plain base k x5 x11 x12) M2
theorem FmG.ff (h : FmG w f) : FmF w f := ⟨h.q.wf, h.q.de⟩
theorem t_bqA (I : BkI p c q9 M0 M L) (ff : FmG w f) (hkp : k = plain → hasK f = false) (K : BqK p c q9 q4 M0 L w r cnt plain base k x5 D') : b_bqA sp_take D' (BqE p c q9 q4 w r cnt plain base k x5 (some f) x12) M := by
  refine ⟨p, c, 9, rfl, by decide, I.now, fun r1 hr1 M1 d1 => ?_⟩
  have I1 := I.go d1
  refine ⟨⟨_, I1.m8⟩, by show 6 ≤ sizeLine; decide, fun q hq => ?_⟩
  have xq : Ext M1 (updM M1 q (.lst (names6.map .str))) := Ext.new hq
  have I2 := I1.ext xq
  refine ⟨by show (0 : Int) < 6; decide, ?_⟩
  have hm : (k + base) % 6 < 6 := Nat.mod_lt _ (by decide)
  have em : ((k : Int) + (base : Int)) % 6 = (((k + base) % 6 : Nat) : Int) := by omega
  refine .inl ⟨names6.map .str, _, .str (names6.getD ((k + base) % 6) ""), updM_same, rfl, by rw [em]; exact atI_nat (six_names ⟨_, hm⟩), ?_⟩
  have ll := I2.ll
  refine ⟨by show 3 ≤ sizeLine; decide, _, I2.m8, tolist (by rw [List.length_map]; omega), ?_⟩
  refine K _ (names6.getD ((k + base) % 6) "", 1 + r1, f) _ _ I2 ⟨⟨by show 1 ≤ 1 + r1; omega, by show 1 + r1 ≤ 9; omega⟩, ff.ff, ff.q.sz, ff.ba⟩ rfl hkp _ ?_
  rw [List.map_append]
  have ep : (1 : Int) + (r1 : Int) = ((1 + r1 : Nat) : Int) := by push_cast; rfl
  show updM _ q9 (.lst (L.map deedD ++ [.tup [.str (names6.getD ((k + base) % 6) ""), .int (1 + (r1 : Int)), f]])) = _
  rw [ep]
  rfl
theorem t_bqB (w1 : 1 ≤ w) (w4 : w ≤ 4) (I : BkI p c q9 M0 M L) (K : BqK p c q9 q4 M0 L w r cnt plain base k x5 D') : b_bqB sp_take sp_lform (sp_lnames2 8) D' (BqE p c q9 q4 w r cnt plain base k x5 x11 x12) M := by
  refine ⟨p, c, w, rfl, I.now, w1, w4, fun f M1 ff d1 => ?_⟩
  have I1 := I.go d1
  refine ⟨fun hb => ?_, fun hb => ⟨fun hc => absurd hc (by decide), fun _ => t_bqA I1 ff (fun e => by
    have hb : decide ((k : Int) = (plain : Int)) = false := hb
    have := of_decide_eq_false hb
    omega) K⟩⟩
  have fo := ff.fm
  refine ⟨f, rfl, fo.tr, by have := fo.de; omega, fo.sz, fun pn M2 hpn x2 hnm => ?_⟩
  have I2 := I1.ext x2
  refine .inl ⟨_, hnm, rfl, flat_strs _, fun _ => ?_, fun hk => t_bqA I2 ff (fun _ => by
    have hk : inD (.str "k") ((lnamesD f).map D.str) = false := hk
    rw [inD_strs] at hk
    have := of_decide_eq_false hk
    exact decide_eq_false fun z => this ((mem_lnames _ _).mp z)) K⟩
  refine ⟨by show 2 ≤ sizeLine; decide, by show 3 ≤ sizeLine; decide, by show 3 ≤ sizeLine; decide, fun q hq => ?_⟩
  have xq := Ext.new (o := .lst [.tup [.str "not", .str "a"], .tup [.str "add", .str "a", .str "b"], .int 1]) hq
  have qm : updM M2 q (.lst [.tup [.str "not", .str "a"], .tup [.str "add", .str "a", .str "b"], .int 1]) q = some (.lst [.tup [.str "not", .str "a"], .tup [.str "add", .str "a", .str "b"], .int 1]) := updM_same
  have hqc := I2.now.cne hq
  generalize updM M2 q (.lst [.tup [.str "not", .str "a"], .tup [.str "add", .str "a", .str "b"], .int 1]) = M3 at xq qm ⊢
  have I3 := I2.ext xq
  refine ⟨p, c, 3, rfl, by decide, I3.now, fun r2 hr2 M4 d4 => ?_⟩
  obtain ⟨g, hg, hc⟩ := three_at (x := .tup [.str "not", .str "a"]) (y := .tup [.str "add", .str "a", .str "b"]) (z := .int 1) hr2
  refine .inl ⟨_, _, g, d4.ex _ _ hqc qm, rfl, atI_nat hg, ?_⟩
  have fa := fq_str (w := w) (t := "a") (by decide)
  have fb := fq_str (w := w) (t := "b") (by decide)
  refine t_bqA (I3.go d4) ?_ (fun _ => ?_) K
  rotate_left
  · rcases hc with rfl | rfl | rfl <;> decide
  rcases hc with rfl | rfl | rfl
  · exact ⟨(fq_one (o := .not) rfl fa).mono (by decide) (by decide), fun z => absurd z (by decide)⟩
  · exact ⟨(fq_two (o := .add) rfl fa fb).mono (by decide) (by decide), ba_of (by simp [lnamesD, lnamesDs])⟩
  · have h1 : 1 < 2 ^ w := Nat.one_lt_two_pow (by omega)
    exact ⟨(fq_int (n := 1) h1).mono (by decide) (by decide), ba_of (by simp [lnamesD])⟩
end
theorem r_bqL {p c q4 : Addr} {w r : Nat} {z zr : Int} {ws : List Nat} {x5 : Option D} {M M1 : Mm} {Q : DQ} (hz : z = (w : Nat)) (hzr : zr = (r : Nat)) (w1 : 1 ≤ w) (w4 : w ≤ 4) (r1 : 1 ≤ r) (r4 : r ≤ 4) (bits : w * r ≤ 8) (wo : WsOk w ws) (dw : Dw p c M) (dr : Dr c M M1) (q4c : q4 ≠ c) (hq4 : M1 q4 = some (.lst (wds ws)))
    (h : BookK2 p c M Q) : b_bqL sp_take sp_lform (sp_lnames2 8) (En Q) [some (.ref p), some (.ref c), some (.int z), some (.int zr), some (.ref q4), x5, none, none, none, none, none, none, none] M1 := by
  subst hz hzr
  have dw1 := dw.go dr
  refine ⟨p, c, 5, rfl, by decide, dw1, fun n0 hn0 Ma da => ?_⟩
  have dwa := dw1.go da
  have en : (2 : Int) + (n0 : Int) = ((2 + n0 : Nat) : Int) := by push_cast; rfl
  refine ⟨p, c, 2 + n0, by rw [← en], by omega, dwa, fun plain hpl Mb db => ?_⟩
  have dwb := dwa.go db
  refine ⟨p, c, 6, rfl, by decide, dwb, fun base hb M2 d2 => ?_⟩
  have dw2 := dwb.go d2
  have dAll := da.trans (db.trans d2)
  have n6 : 2 + n0 ≤ 6 := by omega
  have n1 : 1 ≤ 2 + n0 := by omega
  show (dSeq (dAsg (dLst (dNil)) (.nm 9)) (dSeq (dFor (dRng1 (dCons (dVar 6) (dNil))) (.nm 10) (b_bqB sp_take sp_lform (sp_lnames2 8))) (dRet (dLst (dCons (dVar 2) (dCons (dVar 3) (dCons (dVar 4) (dCons (dVar 9) (dNil))))))))) (En Q) [some (.ref p), some (.ref c), some (.int w), some (.int r), some (.ref q4), x5, some (.int (2 + (n0 : Int))), some (.int plain), some (.int base), none, none, none, none] M2
  rw [en]
  generalize 2 + n0 = n at n6 n1 hpl ⊢
  refine ⟨by show 0 ≤ sizeLine; decide, fun q9 hq9 => ?_⟩
  have x8 : Ext M2 (updM M2 q9 (.lst [])) := Ext.new hq9
  have m8 : updM M2 q9 (.lst []) q9 = some (.lst []) := updM_same
  have q48 : M2 q4 = some (.lst (wds ws)) := dAll.ex _ _ q4c hq4
  generalize updM M2 q9 (.lst []) = M3 at x8 m8 ⊢
  refine ⟨by omega, by omega, ?_⟩
  refine ⟨fun i E M' => ∃ L : List (Str × Nat × D), BkI p c q9 M2 M' L ∧ L.length = i ∧ L.map (·.1) = nmsL base i ∧ (∀ d ∈ L, DeedF w d) ∧ (plain < i → ∃ d ∈ L, hasK d.2.2 = false) ∧ ∃ x10 x11 x12 : Option D, E = [some (.ref p), some (.ref c), some (.int w), some (.int r), some (.ref q4), x5, some (.int n), some (.int plain), some (.int base), some (.ref q9), x10, x11, x12], ⟨[], ⟨dw2, .ofExt x8, hq9, m8, by show 0 ≤ 6; decide⟩, rfl, rfl, by simp, fun z => absurd z (Nat.not_lt_zero _), none, none, none, rfl⟩, fun _ _ _ _ => trivial, ?_, ?_⟩
  · rintro i E M' d0 hd ⟨L, I, hl, hn, hL, hP, x10, x11, x12, rfl⟩
    obtain ⟨hi, rfl⟩ := rng_at hd
    have hi : i < n := by have : i < (n : Int).toNat := hi; omega
    rw [Int.zero_add]
    refine t_bqB (q4 := q4) (r := r) (cnt := n) (plain := plain) (base := base) (k := i) (x5 := x5) w1 w4 I fun M4 d y11 y12 I4 df hdn hkp M5 e5 => ?_
    subst e5
    refine ⟨L ++ [d], ⟨I4.dw, I4.dr.mut dw2.cur hq9, hq9, updM_same, by rw [List.length_append, hl]; show i + 1 ≤ 6; omega⟩, by rw [List.length_append, hl]; rfl, ?_, ?_, fun hpi => ?_, _, _, _, rfl⟩
    · rw [List.map_append, hn]
      show nmsL base i ++ [d.1] = nmsL base (i + 1)
      unfold nmsL
      rw [List.range_succ, List.map_append, hdn]; rfl
    · intro e he
      rcases List.mem_append.mp he with he | he
      · exact hL e he
      · cases List.mem_singleton.mp he; exact df
    · by_cases e : i = plain
      · exact ⟨d, List.mem_append.mpr (.inr (List.mem_singleton.mpr rfl)), hkp e⟩
      · obtain ⟨d2, h1, h2⟩ := hP (by omega)
        exact ⟨d2, List.mem_append.mpr (.inl h1), h2⟩
  · rintro E M' ⟨L, I, hl, hn, hL, hP, x10, x11, x12, rfl⟩
    rw [rng_len, show ((n : Nat) : Int).toNat = n by omega] at hl hn hP
    have hn6 := nms_ok ⟨base, hb⟩ ⟨n, by omega⟩
    refine ⟨by show 4 ≤ sizeLine; decide, fun a ha => ?_⟩
    have xa : Ext M' (updM M' a (.lst [.int w, .int r, .ref q4, .ref q9])) := Ext.new ha
    have memN : ∀ d ∈ L, d.1 ∈ names6 := fun d hd => hn6.2 d.1 (by show d.1 ∈ nmsL base n; rw [← hn]; exact List.mem_map.mpr ⟨d, hd, rfl⟩)
    have nof : ∀ s : Str, (∀ t ∈ names6, t ≠ s) → (BK.mk w r ws L).find s = none := fun s hs => by
      rw [BK.find_eq, List.find?_eq_none]
      intro d hd
      have := hs d.1 (memN d hd)
      unfold nmIs
      simpa using this
    refine h a q4 q9 ⟨w, r, ws, L⟩ _ ⟨w1, w4, r1, r4, bits, wo.len, wo.lt, wo.asc, by show 1 ≤ L.length; omega, by show L.length ≤ 6; omega, by show (L.map (·.1)).Nodup; rw [hn]; exact hn6.1, fun d hd => ?_, fun d hd => (hL d hd).pr, fun d hd => ?_, fun d hd => (hL d hd).ba⟩ ⟨nof _ fun t ht => (names6_ok t ht).2.2.2.1, nof _ fun t ht => (names6_ok t ht).2.2.2.2⟩ (hP hpl) ⟨updM_same, xa _ _ (I.dr.ex _ _ q4c q48), xa _ _ I.m8⟩ (I.now.cne ha) q4c (dw2.cne hq9) (dr.trans (dAll.trans (I.dr.trans (.ofExt xa))))
    · have := names6_ok d.1 (memN d hd)
      exact ⟨this.1, this.2.1, this.2.2.1⟩
    · have := hL d hd
      exact ⟨this.fm.wf, by have := this.fm.de; omega, this.sz⟩
/-- the first k of some words -/
theorem wsTake {ws : List Nat} (k : Nat) : cutL D (wds ws) none (some ((k : Nat) : Int)) = wds (ws.take k) := by
  unfold cutL
  rw [HT.sIx_nat, show HT.sIx (wds ws).length 0 none = 0 from rfl, List.drop_zero, Nat.sub_zero]
  unfold wds
  rw [← List.map_take, List.length_map]
  by_cases h : k ≤ ws.length
  · rw [Nat.min_eq_left h]
  · rw [Nat.min_eq_right (by omega), List.take_length, List.take_of_length_le (by omega)]
def sp_lbook2 : DSp := fun ds M Q _ => ∃ p c : Addr, ds = [.ref p, .ref c] ∧ Dw p c M ∧ BookK2 p c M Q
theorem r__law_book_v2 : ∀ ds M Q E, sp_lbook2 ds M Q E → b__law_book_v2 sp_take sp_lform (sp_lnames2 8) (En Q) (startD 13 ds) M := by
  rintro ds M0 Q E ⟨p, c, rfl, dw0, h⟩
  refine ⟨p, c, 4, rfl, by decide, dw0, fun r0 hr0 M1 d1 => ?_⟩
  have dwm1 := dw0.go d1
  obtain ⟨m, hm1, hm2, hm3⟩ := reg_most ⟨1 + r0, by omega⟩ (by show 1 ≤ 1 + r0; omega)
  have ew : (1 : Int) + (r0 : Int) = ((1 + r0 : Nat) : Int) := by push_cast; rfl
  refine ⟨cdiv (r := 1 + r0) (by omega) (by omega) |> fun z => by rw [← ew] at z; exact z, ?_⟩
  refine ⟨p, c, m.1, ?_, hm1, dwm1, fun r1 hr1 M2 d2 => ?_⟩
  · show [_, _, D.int (if (8 : Int) / (1 + (r0 : Int)) < 4 then (8 : Int) / (1 + (r0 : Int)) else 4)] = _
    rw [ew, hm2]
  have hwm : (1 + r0) * (1 + r1) ≤ (1 + r0) * m.1 := Nat.mul_le_mul_left _ (by omega)
  have hm3 : (1 + r0) * m.1 ≤ 8 := hm3
  have er : (1 : Int) + (r1 : Int) = ((1 + r1 : Nat) : Int) := by push_cast; rfl
  have dr := d1.trans d2
  have dw1 := dw0.go dr
  have w4 : 1 + r0 ≤ 4 := by omega
  have w1 : 1 ≤ 1 + r0 := by omega
  have r4 : 1 + r1 ≤ 4 := by have := m.2; omega
  have rr1 : 1 ≤ 1 + r1 := by omega
  have bits : (1 + r0) * (1 + r1) ≤ 8 := by omega
  obtain ⟨w, hw⟩ : ∃ w, w = 1 + r0 := ⟨_, rfl⟩
  obtain ⟨r, hr⟩ : ∃ r, r = 1 + r1 := ⟨_, rfl⟩
  rw [← hw] at ew w4 w1 bits
  rw [← hr] at er r4 rr1 bits
  obtain ⟨N, hN, hpow, pb⟩ : ∃ N : Nat, 2 ^ w = N ∧ (1 : Int) * 2 ^ ((1 : Int) + (r0 : Int)).toNat = (N : Int) ∧ N ≤ 16 := ⟨_, rfl, by rw [ew]; exact pow_cast w, by
    have : ∀ w : Fin 5, 2 ^ w.1 ≤ 16 := by decide
    exact this ⟨w, by omega⟩⟩
  refine ⟨by have := cpow (i := 1) w (by omega) (by decide); rw [← ew] at this; exact this, ?_⟩
  refine ⟨by rw [hpow]; omega, by rw [hpow]; omega, fun q hq => ?_⟩
  rw [hpow]
  have hqc := dw1.cne hq
  refine ⟨fun i acc M' => Dr c M2 M' ∧ M' q = some (.lst acc) ∧ ∃ ws : List Nat, acc = wds ws ∧ ws.length ≤ i ∧ (∀ x ∈ ws, x < i) ∧ ws.Pairwise (· < ·), ⟨.new hq, updM_same, [], rfl, Nat.le_refl _, by simp, .nil⟩, fun _ _ _ _ => trivial, ?_, ?_⟩
  · rintro i acc M' d0 hd ⟨hx, hm, ws, rfl, hl, hlt, hasc⟩
    obtain ⟨hi, rfl⟩ := rng_at hd
    have hi : i < N := by have : i < (N : Int).toNat := hi; omega
    rw [Int.zero_add]
    refine ⟨p, c, 2, rfl, by decide, dw1.go hx, fun r3 hr3 M3 d3 => ⟨fun _ => ?_, fun _ => ?_⟩⟩
    · refine ⟨d3.ex _ _ hqc hm, tolist (by rw [wds_len]; omega), (hx.trans d3).mut dw1.cur hq, updM_same, ws ++ [i], (wds_snoc ws i).symm, by rw [List.length_append]; show ws.length + 1 ≤ i + 1; omega, fun x hx => ?_, ?_⟩
      · rcases List.mem_append.mp hx with hx | hx
        · have := hlt x hx; omega
        · cases List.mem_singleton.mp hx; omega
      · rw [List.pairwise_append]
        exact ⟨hasc, List.pairwise_singleton _ _, fun x hx y hy => by cases List.mem_singleton.mp hy; exact hlt x hx⟩
    · exact ⟨hx.trans d3, d3.ex _ _ hqc hm, ws, rfl, by omega, fun x hx => by have := hlt x hx; omega, hasc⟩
  · rintro acc M3 ⟨hx, hm, ws, rfl, hl, hlt, hasc⟩
    rw [rng_len, show (N : Int).toNat = N by omega] at hl hlt
    refine ⟨_, hm, fun q4 hq4 => ?_⟩
    rw [show cutL D (wds ws) none (some (3 : Int)) = wds (ws.take 3) from wsTake 3]
    have x4 : Ext M3 (updM M3 q4 (.lst (wds (ws.take 3)))) := Ext.new hq4
    have m4 : updM M3 q4 (.lst (wds (ws.take 3))) q4 = some (.lst (wds (ws.take 3))) := updM_same
    have dw3 := dw1.go hx
    have q4c := dw3.cne hq4
    generalize updM M3 q4 (.lst (wds (ws.take 3))) = M4 at x4 m4 ⊢
    have wo : WsOk w (ws.take 3) := ⟨by rw [List.length_take]; omega, fun x hx => by rw [hN]; exact hlt x (List.mem_of_mem_take hx), hasc.sublist (List.take_sublist _ _)⟩
    exact r_bqL ew er w1 w4 rr1 r4 bits wo dw0 (dr.trans (hx.trans (.ofExt x4))) q4c m4 h
end Rv

set_option Elab.async false
set_option linter.all false
set_option autoImplicit false
set_option maxRecDepth 100000
set_option maxHeartbeats 4000000
/-! readings for k78: the law, its tails -/
namespace Rv
open PySem PySem.Spec PyProof.Rows L2 DH Bd Rd Rk
local macro_rules | `(tactic| walk_at "if") => `(tactic| first | (refine ⟨fun _ => ?_, fun hc => absurd hc (by decide)⟩) | (refine ⟨fun hc => absurd hc (by decide), fun _ => ?_⟩))
def b_lv21 (s_live_sets : DSp) (s__law_same : DSp) (s__law_live : DSp) (s__law_text_asked : DSp) : DS := dSeq (dAsg (dCall s_live_sets (dCons (dVar 4) (dCons (dL oList (dCons (dVar 7) (dNil))) (dCons (dVar 9) (dNil))))) (.nm 17)) (dSeq (dIf (dtNot (dtE (dCall s__law_same (dCons (dVar 17) (dCons (dCall s__law_live (dCons (dVar 7) (dCons (dVar 9) (dNil)))) (dNil)))))) (dRet (dC (.bl false))) (dNext)) (dSeq (dDrop (dApp (dVar 17) (dTup (dNil)))) (dSeq (dIf (dtNot (dtE (dCall s__law_same (dCons (dCall s_live_sets (dCons (dVar 4) (dCons (dL oList (dCons (dVar 7) (dNil))) (dCons (dVar 9) (dNil))))) (dCons (dCall s__law_live (dCons (dVar 7) (dCons (dVar 9) (dNil)))) (dNil)))))) (dRet (dC (.bl false))) (dNext)) (dRet (dCall s__law_text_asked (dCons (dVar 3) (dCons (dVar 4) (dCons (dVar 7) (dCons (dVar 9) (dCons (dVar 13) (dCons (dVar 11) (dNil))))))))))))
def b_lv18 (s__law_bad : DSp) (s_live_sets : DSp) (s__law_same : DSp) (s__law_live : DSp) (s__law_text_asked : DSp) : DS := dSeq (dAsg (dL oList (dCons (dVar 7) (dNil))) (.nm 16)) (dSeq (dIf (dtOr (dtB (dOp oNe (dCall s__law_bad (dCons (dVar 4) (dCons (dVar 16) (dCons (dVar 9) (dCons (dTup (dNil)) (dNil)))))) (dVar 14))) (dtOr (dtB (dOp oNe (dCall s__law_bad (dCons (dVar 4) (dCons (dVar 16) (dCons (dVar 9) (dCons (dVar 13) (dNil)))))) (dVar 14))) (dtB (dOp oNe (dVar 16) (dVar 7))))) (dRet (dC (.bl false))) (dNext)) (dSeq (dIf (dtB (dOp oGe (dVar 14) (dC (.int 0)))) (dRet (dC (.bl true))) (dNext)) (b_lv21 s_live_sets s__law_same s__law_live s__law_text_asked)))
def b_lv17 (s__law_take : DSp) (s__law_spoilt : DSp) (s__law_bad : DSp) (s_live_sets : DSp) (s__law_same : DSp) (s__law_live : DSp) (s__law_text_asked : DSp) : DS := dSeq (dIf (dtAnd (dtB (dOp oGt (dL oLen (dCons (dVar 7) (dNil))) (dC (.int 0)))) (dtB (dOp oEq (dCall s__law_take (dCons (dVar 1) (dCons (dVar 2) (dCons (dC (.int 4)) (dNil))))) (dC (.int 0))))) (dSeq (dAsg (dOp oMod (dCall s__law_take (dCons (dVar 1) (dCons (dVar 2) (dCons (dC (.int 1009)) (dNil))))) (dL oLen (dCons (dVar 7) (dNil)))) (.nm 15)) (dSeq (dSetIx (dCall s__law_spoilt (dCons (dVar 1) (dCons (dVar 2) (dCons (dVar 3) (dCons (dOp oIx (dVar 7) (dVar 15)) (dNil)))))) (dVar 7) (dVar 15)) (dAsg (dL oMin2 (dCons (dVar 15) (dCons (dC (.int 200)) (dNil)))) (.nm 14)))) (dNext)) (b_lv18 s__law_bad s_live_sets s__law_same s__law_live s__law_text_asked)
def b_lv15 (s__law_take : DSp) (s__law_spoilt : DSp) (s__law_bad : DSp) (s_live_sets : DSp) (s__law_same : DSp) (s__law_live : DSp) (s__law_text_asked : DSp) : DS := dSeq (dAsg (dUn oNeg (dC (.int 1))) (.nm 14)) (dSeq (dIf (dtB (dOp oGt (dL oLen (dCons (dVar 7) (dNil))) (dC (.int 200)))) (dAsg (dC (.int 200)) (.nm 14)) (dNext)) (b_lv17 s__law_take s__law_spoilt s__law_bad s_live_sets s__law_same s__law_live s__law_text_asked))
def b_lv12 (s__law_take : DSp) (s__law_spoilt : DSp) (s__law_bad : DSp) (s_live_sets : DSp) (s__law_same : DSp) (s__law_live : DSp) (s__law_text_asked : DSp) : DS := dSeq (dAsg (dCall s__law_take (dCons (dVar 1) (dCons (dVar 2) (dCons (dOp oAdd (dL oMin2 (dCons (dL oLen (dCons (dVar 7) (dNil))) (dCons (dC (.int 200)) (dNil)))) (dC (.int 1))) (dNil))))) (.nm 12)) (dSeq (dAsg (dTup (dCons (dVar 12) (dCons (dL oMin2 (dCons (dCall s__law_take (dCons (dVar 1) (dCons (dVar 2) (dCons (dC (.int 61)) (dNil))))) (dCons (dOp oSub (dL oMin2 (dCons (dL oLen (dCons (dVar 7) (dNil))) (dCons (dC (.int 200)) (dNil)))) (dVar 12)) (dNil)))) (dNil)))) (.nm 13)) (dSeq (dIf (dtAnd (dtB (dOp oGt (dVar 6) (dC (.int 60)))) (dtB (dOp oEq (dCall s__law_take (dCons (dVar 1) (dCons (dVar 2) (dCons (dC (.int 2)) (dNil))))) (dC (.int 0))))) (dAsg (dTup (dCons (dVar 12) (dCons (dOp oMod (dL oInt1 (dCons (dOp oIx (dVar 13) (dC (.int 1))) (dNil))) (dC (.int 9))) (dNil)))) (.nm 13)) (dNext)) (b_lv15 s__law_take s__law_spoilt s__law_bad s_live_sets s__law_same s__law_live s__law_text_asked)))
def b_lv9 (s__law_take : DSp) (s__law_places_asked : DSp) (s__law_spoilt : DSp) (s__law_bad : DSp) (s_live_sets : DSp) (s__law_same : DSp) (s__law_live : DSp) (s__law_text_asked : DSp) : DS := dSeq (dAsg (dL oTuple (dCons (dLc (dRng1 (dCons (dOp oIx (dVar 3) (dC (.int 1))) (dNil))) (.nm 10) (dtB (dOp oGt (dCall s__law_take (dCons (dVar 1) (dCons (dVar 2) (dCons (dC (.int 3)) (dNil))))) (dC (.int 0)))) (dVar 10) [10]) (dNil))) (.nm 9)) (dSeq (dAsg (dL oTuple (dCons (dLc (dRng1 (dCons (dOp oIx (dVar 3) (dC (.int 1))) (dNil))) (.nm 10) dYes (dCall s__law_take (dCons (dVar 1) (dCons (dVar 2) (dCons (dOp oShl (dC (.int 1)) (dOp oIx (dVar 3) (dC (.int 0)))) (dNil))))) [10]) (dNil))) (.nm 11)) (dSeq (dIf (dtNot (dtE (dCall s__law_places_asked (dCons (dVar 1) (dCons (dVar 2) (dNil)))))) (dRet (dC (.bl false))) (dNext)) (b_lv12 s__law_take s__law_spoilt s__law_bad s_live_sets s__law_same s__law_live s__law_text_asked)))
def b_lv5 (s__law_take : DSp) (s__law_places_asked : DSp) (s__law_spoilt : DSp) (s__law_bad : DSp) (s_live_sets : DSp) (s__law_same : DSp) (s__law_live : DSp) (s__law_text_asked : DSp) : DS := dSeq (dAsg (dCall s__law_take (dCons (dVar 1) (dCons (dVar 2) (dCons (dC (.int 13)) (dNil))))) (.nm 6)) (dSeq (dIf (dtB (dOp oEq (dCall s__law_take (dCons (dVar 1) (dCons (dVar 2) (dCons (dC (.int 16)) (dNil))))) (dC (.int 0)))) (dAsg (dOp oAdd (dC (.int 190)) (dCall s__law_take (dCons (dVar 1) (dCons (dVar 2) (dCons (dC (.int 14)) (dNil)))))) (.nm 6)) (dNext)) (dSeq (dAsg (dLst (dNil)) (.nm 7)) (dSeq (dFor (dRng1 (dCons (dVar 6) (dNil))) (.nm 8) (dDrop (dApp (dVar 7) (dOp oIx (dVar 5) (dOp oMod (dL oInt1 (dCons (dOp oAdd (dOp oMul (dCall s__law_take (dCons (dVar 1) (dCons (dVar 2) (dCons (dC (.int 1009)) (dNil))))) (dC (.int 31))) (dCall s__law_take (dCons (dVar 1) (dCons (dVar 2) (dCons (dC (.int 31)) (dNil)))))) (dNil))) (dL oLen (dCons (dVar 5) (dNil)))))))) (b_lv9 s__law_take s__law_places_asked s__law_spoilt s__law_bad s_live_sets s__law_same s__law_live s__law_text_asked))))
abbrev LV (s0 : D) (p c a x q : Addr) (m : D) (qc : Addr) (x8 x9 x10 x11 x12 x13 x14 x15 x16 x17 : Option D) : DEnv := [some s0, some (.ref p), some (.ref c), some (.ref a), some (.ref x), some (.ref q), some m, some (.ref qc), x8, x9, x10, x11, x12, x13, x14, x15, x16, x17]
section
variable {cl : CF} {CB CT p c a aw ad x q qc : Addr} {b : BK} {M M0 : Mm} {s0 m : D} {x8 x9 x10 x11 x12 x13 x14 x15 x16 x17 : Option D} {code : List ST} {st ends : List Nat} {Q : DQ} {i n : Nat}
/-- one asking of live_sets, compared -/
theorem t_lv21 (L : LI cl CB p c a aw ad x b M) (so : StOk b st) (co : CoI code) (he : EndsOk b.r ends) (hn : firstBad b code = none) (hc : M qc = some (.lst (stepsD code))) (hin : i + n ≤ code.length) (h60 : n ≤ 60) (hQ : ∀ M', Q (.bl true) M') :
    b_lv21 (sp_live_sets cl CB) sp_lsame sp_llive (sp_ltext cl CB) (En Q) (LV s0 p c a x q m qc x8 (some (.tup (wds ends))) x10 (some (.tup (wds st))) x12 (some (.tup [.int i, .int n])) x14 x15 x16 x17) M := by
  have ok := L.ok
  have cl1 := co.co.len
  refine ⟨_, hc, fun g hg => ?_⟩
  have xg := Ext.new (o := .lst (stepsD code)) hg
  have mg : updM M g (.lst (stepsD code)) g = some (.lst (stepsD code)) := updM_same
  generalize updM M g (.lst (stepsD code)) = M1 at xg mg ⊢
  refine ⟨x, g, b, code, ends, rfl, L.bm.ext xg, ok, mg, co.co, he, hn, fun t M2 ht x2 mt => ?_⟩
  have x02 := xg.trans x2
  have ht0 : M t = none := xg.back ht
  refine ⟨qc, code, ends, rfl, x02 _ _ hc, cl1, fun u M3 hu x3 mu => ?_⟩
  have x03 := x02.trans x3
  have hll := liveL_len ends code
  refine ⟨t, u, liveL code ends, rfl, x3 _ _ mt, mu, by omega, fun M4 x4 => ?_⟩
  walk_at "if"
  have x04 := x03.trans x4
  have mt4 := x4 _ _ (x3 _ _ mt)
  refine ⟨⟨_, mt4⟩, by show 0 ≤ sizeLine; decide, _, mt4, tolist (by rw [rowsD_len, hll]; omega), ?_⟩
  have x05 : Ext M (updM M4 t (.lst (rowsD (liveL code ends) ++ [.tup []]))) := x04.mut ht0
  generalize updM M4 t (.lst (rowsD (liveL code ends) ++ [.tup []])) = M5 at x05 ⊢
  refine ⟨_, x05 _ _ hc, fun g2 hg2 => ?_⟩
  have xg2 := Ext.new (o := .lst (stepsD code)) hg2
  have mg2 : updM M5 g2 (.lst (stepsD code)) g2 = some (.lst (stepsD code)) := updM_same
  generalize updM M5 g2 (.lst (stepsD code)) = M6 at xg2 mg2 ⊢
  have x06 := x05.trans xg2
  refine ⟨x, g2, b, code, ends, rfl, L.bm.ext x06, ok, mg2, co.co, he, hn, fun t2 M7 ht2 x7 mt2 => ?_⟩
  have x07 := x06.trans x7
  refine ⟨qc, code, ends, rfl, x07 _ _ hc, cl1, fun u2 M8 hu2 x8 mu2 => ?_⟩
  refine ⟨t2, u2, liveL code ends, rfl, x8 _ _ mt2, mu2, by omega, fun M9 x9 => ?_⟩
  walk_at "if"
  have x09 := x07.trans (x8.trans x9)
  exact ⟨a, aw, ad, x, qc, b, code, ends, i, n, st, rfl, L.da.ext x09, L.bm.ext x09, ok, x09 _ _ hc, co.co, co.oks, he, hn, hin, h60, so, fun M' _ => hQ M'⟩
theorem t_lv18 (L : LI cl CB p c a aw ad x b M) (so : StOk b st) (co : CoI code) (he : EndsOk b.r ends) (hc : M qc = some (.lst (stepsD code))) (hin : i + n ≤ code.length) (h60 : n ≤ 60) (hQ : ∀ M', Q (.bl true) M') :
    b_lv18 (sp_lbad cl CB) (sp_live_sets cl CB) sp_lsame sp_llive (sp_ltext cl CB) (En Q) (LV s0 p c a x q m qc x8 (some (.tup (wds ends))) x10 (some (.tup (wds st))) x12 (some (.tup [.int i, .int n])) (some (.int (fbI (firstBad b code)))) x15 x16 x17) M := by
  have ok := L.ok
  refine ⟨_, hc, fun g hg => ?_⟩
  have xg := Ext.new (o := .lst (stepsD code)) hg
  have mg : updM M g (.lst (stepsD code)) g = some (.lst (stepsD code)) := updM_same
  generalize updM M g (.lst (stepsD code)) = M1 at xg mg ⊢
  refine ⟨by show 0 ≤ sizeLine; decide, ?_⟩
  refine ⟨x, g, b, code, ends, none, rfl, L.bm.ext xg, ok, mg, co.co, he, fun v hv => (by cases hv), fun M2 x2 => ?_⟩
  refine ⟨fun hc => absurd hc (by simp), fun _ => ?_⟩
  have x02 := xg.trans x2
  refine ⟨x, g, b, code, ends, some (i, n), rfl, L.bm.ext x02, ok, x2 _ _ mg, co.co, he, fun v hv => (by cases hv; exact ⟨fun _ => hin, h60⟩), fun M3 x3 => ?_⟩
  refine ⟨fun hc => absurd hc (by simp), fun _ => ?_⟩
  have x03 := x02.trans x3
  refine tB_op rfl rfl (ne_lists (x3 _ _ (x2 _ _ mg)) (x03 _ _ hc) co.oks (by decide) ?_)
  walk_at "if"
  cases hf : firstBad b code with
  | none =>
    rw [show fbI none = -1 from rfl]
    walk_at "if"
    exact t_lv21 (L.ext x03) so co he hf (x03 _ _ hc) hin h60 hQ
  | some k =>
    rw [show fbI (some k) = (k : Int) from rfl]
    refine ⟨fun _ => hQ _, fun h0 => ?_⟩
    have h0 : decide ((0 : Int) ≤ (k : Int)) = false := h0
    have := of_decide_eq_false h0
    omega
theorem t_lv17 (L0 : LI cl CB p c a aw ad x b M0) (d0 : Dr c M0 M) (hq0 : M0 qc = none) (so : StOk b st) (co : CoI code) (he : EndsOk b.r ends) (hst : ∀ s ∈ code, isStep b s = true) (hc : M qc = some (.lst (stepsD code))) (hin : i + n ≤ code.length) (h60 : n ≤ 60) (hQ : ∀ M', Q (.bl true) M') :
    b_lv17 sp_take sp_lspoilt (sp_lbad cl CB) (sp_live_sets cl CB) sp_lsame sp_llive (sp_ltext cl CB) (En Q) (LV s0 p c a x q m qc x8 (some (.tup (wds ends))) x10 (some (.tup (wds st))) x12 (some (.tup [.int i, .int n])) (some (.int (fbI (firstBad b code)))) x15 x16 x17) M := by
  have ok := L0.ok
  have qcc := L0.dw.cne hq0
  have cl1 := co.co.len
  refine .inl ⟨_, hc, fun h0 => ?_, fun _ => ?_⟩
  rotate_left
  · walk_at "if"
    exact t_lv18 (L0.go d0) so co he hc hin h60 hQ
  have h0 : decide ((0 : Int) < ((stepsD code).length : Nat)) = true := h0
  have h0 := of_decide_eq_true h0
  rw [stepsD_len] at h0
  have hpos : 0 < code.length := by omega
  have L := L0.go d0
  refine ⟨p, c, 4, rfl, by decide, L.dw, fun r hr M1 d1 => ?_⟩
  have d01 := d0.trans d1
  refine ⟨fun _ => ?_, fun _ => t_lv18 (L0.go d01) so co he (d1.ex _ _ qcc hc) hin h60 hQ⟩
  refine ⟨p, c, 1009, rfl, by decide, (L0.go d01).dw, fun r2 hr2 M2 d2 => ?_⟩
  have d02 := d01.trans d2
  have hc2 := d2.ex _ _ qcc (d1.ex _ _ qcc hc)
  have L2 := L0.go d02
  refine .inl ⟨_, hc2, by rw [stepsD_len]; exact h0, ?_⟩
  have em : (r2 : Int) % ((stepsD code).length : Int) = ((r2 % code.length : Nat) : Int) := by rw [stepsD_len]; push_cast; rfl
  dsimp only
  rw [em]
  have hi : r2 % code.length < code.length := Nat.mod_lt _ hpos
  generalize r2 % code.length = j at hi
  have hat := getE hi
  have hs := hst _ (List.getElem_mem hi)
  have hsrc := co.co.src _ (List.getElem_mem hi)
  generalize code[j] = s at hat hs hsrc
  refine .inl ⟨_, _, _, hc2, rfl, atI_nat (stepsD_at hat), ?_⟩
  refine ⟨p, c, a, aw, ad, b, s, rfl, L2.dw, L2.da, L2.n0, L2.n1, L2.n2, ok, hs, L2.nz.zz, fun s' M4 hbad hlen hnm d4 => ?_⟩
  have d04 := d02.trans d4
  refine .inl ⟨_, _, j, d4.ex _ _ qcc hc2, rfl, ixN_nat (by rw [stepsD_len]; exact hi), ?_⟩
  have d05 : Dr c M0 (updM M4 qc (.lst ((stepsD code).set j (stD s')))) := d04.mut L0.dw.cur hq0
  have hc5 : updM M4 qc (.lst ((stepsD code).set j (stD s'))) qc = some (.lst (stepsD (code.set j s'))) := by
    rw [updM_same]; unfold stepsD; rw [List.map_set]
  have hfb := fb_spoilt hst hi hbad
  have co' : CoI (code.set j s') := ⟨⟨by rw [List.length_set]; exact cl1, fun y hy => by
    rcases List.mem_or_eq_of_mem_set hy with hy | rfl
    · exact co.co.src y hy
    · omega⟩, fun y hy => by
    rcases List.mem_or_eq_of_mem_set hy with hy | rfl
    · exact co.nm y hy
    · exact hnm.2⟩
  have hmin : (if (200 : Int) < (j : Int) then (200 : Int) else (j : Int)) = fbI (firstBad b (code.set j s')) := by
    rw [hfb]
    show _ = ((min j 200 : Nat) : Int)
    split <;> omega
  have := t_lv18 (s0 := s0) (q := q) (m := m) (x8 := x8) (x10 := x10) (x12 := x12) (x15 := some (.int (j : Nat))) (x16 := x16) (x17 := x17) (Q := Q) (L0.go d05) so co' he hc5 (by rw [List.length_set]; exact hin) h60 hQ
  rw [← hmin] at this
  exact this
theorem t_lv15 (L0 : LI cl CB p c a aw ad x b M0) (d0 : Dr c M0 M) (hq0 : M0 qc = none) (so : StOk b st) (co : CoI code) (he : EndsOk b.r ends) (hst : ∀ s ∈ code, isStep b s = true) (hc : M qc = some (.lst (stepsD code))) (hin : i + n ≤ code.length) (h60 : n ≤ 60) (hQ : ∀ M', Q (.bl true) M') :
    b_lv15 sp_take sp_lspoilt (sp_lbad cl CB) (sp_live_sets cl CB) sp_lsame sp_llive (sp_ltext cl CB) (En Q) (LV s0 p c a x q m qc x8 (some (.tup (wds ends))) x10 (some (.tup (wds st))) x12 (some (.tup [.int i, .int n])) x14 x15 x16 x17) M := by
  have hfb : firstBad b code = if 200 < code.length then some 200 else none := by
    have := Rk.fb_all (k := 0) hst (by decide)
    rw [Nat.zero_add] at this
    exact this
  refine .inl ⟨_, hc, fun hb => ?_, fun hb => ?_⟩
  · have hb : decide ((200 : Int) < ((stepsD code).length : Nat)) = true := hb
    have := of_decide_eq_true hb
    rw [stepsD_len] at this
    rw [if_pos (by omega)] at hfb
    have := t_lv17 (s0 := s0) (q := q) (m := m) (x8 := x8) (x10 := x10) (x12 := x12) (x15 := x15) (x16 := x16) (x17 := x17) (Q := Q) L0 d0 hq0 so co he hst hc hin h60 hQ
    rw [hfb] at this
    exact this
  · have hb : decide ((200 : Int) < ((stepsD code).length : Nat)) = false := hb
    have := of_decide_eq_false hb
    rw [stepsD_len] at this
    rw [if_neg (by omega)] at hfb
    have := t_lv17 (s0 := s0) (q := q) (m := m) (x8 := x8) (x10 := x10) (x12 := x12) (x15 := x15) (x16 := x16) (x17 := x17) (Q := Q) L0 d0 hq0 so co he hst hc hin h60 hQ
    rw [hfb] at this
    exact this
end
end Rv

set_option Elab.async false
set_option linter.all false
set_option autoImplicit false
set_option maxRecDepth 100000
set_option maxHeartbeats 4000000
/-! readings for k78: the law -/
namespace Rv
open PySem PySem.Spec PyProof.Rows L2 DH Bd Rd Rk
local macro_rules | `(tactic| walk_at "if") => `(tactic| first | (refine ⟨fun _ => ?_, fun hc => absurd hc (by decide)⟩) | (refine ⟨fun hc => absurd hc (by decide), fun _ => ?_⟩))
section
variable {cl : CF} {CB CT p c a aw ad x q qc : Addr} {b : BK} {M M0 : Mm} {s0 : D} {x8 x9 x10 x11 x12 x13 x14 x15 x16 x17 : Option D} {code : List ST} {st ends : List Nat} {Q : DQ} {mm : Nat}
theorem t_lv12 (L0 : LI cl CB p c a aw ad x b M0) (d0 : Dr c M0 M) (hq0 : M0 qc = none) (so : StOk b st) (co : CoI code) (he : EndsOk b.r ends) (hst : ∀ s ∈ code, isStep b s = true) (hc : M qc = some (.lst (stepsD code))) (hQ : ∀ M', Q (.bl true) M') :
    b_lv12 sp_take sp_lspoilt (sp_lbad cl CB) (sp_live_sets cl CB) sp_lsame sp_llive (sp_ltext cl CB) (En Q) (LV s0 p c a x q (.int (mm : Nat)) qc x8 (some (.tup (wds ends))) x10 (some (.tup (wds st))) x12 x13 x14 x15 x16 x17) M := by
  have qcc := L0.dw.cne hq0
  have hmn : (if (200 : Int) < ((code.length : Nat) : Int) then (200 : Int) else ((code.length : Nat) : Int)) = ((min code.length 200 : Nat) : Int) := by split <;> omega
  refine .inl ⟨_, hc, ?_⟩
  have hml : min code.length 200 ≤ code.length := by omega
  refine ⟨p, c, min code.length 200 + 1, ?_, Nat.succ_pos _, (L0.go d0).dw, fun i hi M1 d1 => ?_⟩
  · rw [stepsD_len, hmn]; rfl
  have d01 := d0.trans d1
  refine ⟨p, c, 61, rfl, by decide, (L0.go d01).dw, fun r hr M2 d2 => ?_⟩
  have d02 := d01.trans d2
  have hc2 := d2.ex _ _ qcc (d1.ex _ _ qcc hc)
  refine .inl ⟨_, hc2, ?_⟩
  rw [stepsD_len]
  refine ⟨by show 2 ≤ sizeLine; decide, ?_⟩
  rw [hmn]
  obtain ⟨n, hn, hn1, hn2⟩ : ∃ n : Nat, (if ((min code.length 200 : Nat) : Int) - (i : Int) < (r : Int) then ((min code.length 200 : Nat) : Int) - (i : Int) else (r : Int)) = (n : Int) ∧ n ≤ 60 ∧ i + n ≤ min code.length 200 := by
    split
    · exact ⟨min code.length 200 - i, by omega, by omega, by omega⟩
    · exact ⟨r, rfl, by omega, by omega⟩
  rw [hn]
  have go : ∀ (k : Nat) (M3 : Mm), k ≤ n → Dr c M0 M3 → M3 qc = some (.lst (stepsD code)) → b_lv15 sp_take sp_lspoilt (sp_lbad cl CB) (sp_live_sets cl CB) sp_lsame sp_llive (sp_ltext cl CB) (En Q) (LV s0 p c a x q (.int (mm : Nat)) qc x8 (some (.tup (wds ends))) x10 (some (.tup (wds st))) (some (.int (i : Nat))) (some (.tup [.int i, .int k])) x14 x15 x16 x17) M3 := fun k M3 hk d3 hc3 =>
    t_lv15 L0 d3 hq0 so co he hst hc3 (by omega) (by omega) hQ
  refine ⟨fun _ => ?_, fun _ => ⟨fun hc => absurd hc (by decide), fun _ => go n M2 (Nat.le_refl _) d02 hc2⟩⟩
  refine ⟨p, c, 2, rfl, by decide, (L0.go d02).dw, fun r2 hr2 M3 d3 => ?_⟩
  have hc3 := d3.ex _ _ qcc hc2
  refine ⟨fun _ => ?_, fun _ => go n M3 (Nat.le_refl _) (d02.trans d3) hc3⟩
  refine ⟨.int (n : Nat), rfl, ?_⟩
  refine ⟨by show (0 : Int) < 9; decide, ?_⟩
  refine ⟨by show 2 ≤ sizeLine; decide, ?_⟩
  have em : (n : Int) % 9 = ((n % 9 : Nat) : Int) := by push_cast; rfl
  dsimp only
  rw [em]
  exact go (n % 9) M3 (Nat.mod_le _ _) (d02.trans d3) hc3
theorem t_lv9 (L0 : LI cl CB p c a aw ad x b M0) (d0 : Dr c M0 M) (hq0 : M0 qc = none) (co : CoI code) (hst : ∀ s ∈ code, isStep b s = true) (hc : M qc = some (.lst (stepsD code))) (hQ : ∀ M', Q (.bl true) M') :
    b_lv9 sp_take sp_lplaces sp_lspoilt (sp_lbad cl CB) (sp_live_sets cl CB) sp_lsame sp_llive (sp_ltext cl CB) (En Q) (LV s0 p c a x q (.int (mm : Nat)) qc x8 x9 x10 x11 x12 x13 x14 x15 x16 x17) M := by
  have L := L0.go d0
  have ok := L.ok
  have w4 := ok.w4
  have r4 := ok.r4
  have qcc := L0.dw.cne hq0
  refine .inl ⟨_, _, .int b.r, L.da.h0, rfl, rfl, ?_⟩
  refine ⟨by omega, by omega, fun pe hpe => ?_⟩
  refine ⟨fun i acc M' => Dr c M M' ∧ M' pe = some (.lst acc) ∧ ∃ es : List Nat, acc = wds es ∧ es.length ≤ i ∧ (∀ y ∈ es, y < i) ∧ es.Pairwise (· < ·), ⟨.new hpe, updM_same, [], rfl, Nat.le_refl _, by simp, .nil⟩, fun _ _ _ _ => trivial, ?_, ?_⟩
  · rintro i acc M' d hd ⟨hx, hm, es, rfl, hl, hlt, hasc⟩
    obtain ⟨hi, rfl⟩ := rng_at hd
    have hi : i < b.r := by have : i < (b.r : Int).toNat := hi; omega
    rw [Int.zero_add]
    refine ⟨p, c, 3, rfl, by decide, (L.go hx).dw, fun r hr M2 d2 => ⟨fun _ => ?_, fun _ => ?_⟩⟩
    · refine ⟨d2.ex _ _ (L.dw.cne hpe) hm, tolist (by rw [wds_len]; omega), (hx.trans d2).mut L.dw.cur hpe, updM_same, es ++ [i], (wds_snoc es i).symm, by rw [List.length_append]; show es.length + 1 ≤ i + 1; omega, fun y hy => ?_, ?_⟩
      · rcases List.mem_append.mp hy with hy | hy
        · have := hlt y hy; omega
        · cases List.mem_singleton.mp hy; omega
      · rw [List.pairwise_append]
        exact ⟨hasc, List.pairwise_singleton _ _, fun y hy z hz => by cases List.mem_singleton.mp hz; exact hlt y hy⟩
    · exact ⟨hx.trans d2, d2.ex _ _ (L.dw.cne hpe) hm, es, rfl, by omega, fun y hy => by have := hlt y hy; omega, hasc⟩
  rintro acc M1 ⟨dx1, hm, es, rfl, hl, hlt, hasc⟩
  rw [rng_len, show (b.r : Int).toNat = b.r by omega] at hl hlt
  refine ⟨_, hm, ?_⟩
  have he : EndsOk b.r es := ⟨hasc, hlt⟩
  have d01 := d0.trans dx1
  have L1 := L0.go d01
  refine .inl ⟨_, _, .int b.r, L1.da.h0, rfl, rfl, ?_⟩
  refine ⟨by omega, by omega, fun ps hps => ?_⟩
  refine ⟨fun i acc M' => Dr c M1 M' ∧ M' ps = some (.lst acc) ∧ ∃ st : List Nat, acc = wds st ∧ st.length = i ∧ ∀ y ∈ st, y < 2 ^ b.w, ⟨.new hps, updM_same, [], rfl, rfl, by simp⟩, fun _ _ _ _ => trivial, ?_, ?_⟩
  · rintro i acc M' d hd ⟨hx, hm, st, rfl, hl, hlt⟩
    obtain ⟨hi, rfl⟩ := rng_at hd
    have hi : i < b.r := by have : i < (b.r : Int).toNat := hi; omega
    have L' := L1.go hx
    refine ⟨fun _ => ?_, fun hc => absurd hc (by decide)⟩
    refine .inl ⟨_, _, .int b.w, L'.da.h0, rfl, at0, cpow b.w (by omega) (by decide), ?_⟩
    refine ⟨p, c, 2 ^ b.w, by show [D.ref p, D.ref c, D.int (1 * 2 ^ ((b.w : Int)).toNat)] = _; rw [pow_cast b.w], Nat.two_pow_pos _, L'.dw, fun r hr M2 d2 => ?_⟩
    refine ⟨d2.ex _ _ (L1.dw.cne hps) hm, tolist (by rw [wds_len]; omega), (hx.trans d2).mut L1.dw.cur hps, updM_same, st ++ [r], (wds_snoc st r).symm, by rw [List.length_append, hl]; rfl, fun y hy => ?_⟩
    rcases List.mem_append.mp hy with hy | hy
    · exact hlt y hy
    · cases List.mem_singleton.mp hy; exact hr
  rintro acc M2 ⟨dx2, hm2, st, rfl, hl2, hlt2⟩
  rw [rng_len, show (b.r : Int).toNat = b.r by omega] at hl2
  refine ⟨_, hm2, ?_⟩
  have so : StOk b st := ⟨hl2, hlt2⟩
  have d02 := d01.trans dx2
  refine ⟨p, c, rfl, (L0.go d02).dw, fun M3 d3 => ?_⟩
  walk_at "if"
  exact t_lv12 L0 (d02.trans d3) hq0 so co he hst ((dx1.trans (dx2.trans d3)).ex _ _ qcc hc) hQ
/-- the code is drawn -/
theorem t_lv8 {n : Nat} {D0 : DEnds} (hn : n ≤ 203) (L : LI cl CB p c a aw ad x b M) (hp0 : 0 < b.steps.length) (hqc : q ≠ c) (hq : M q = some (.lst (stepsD b.steps)))
    (k : ∀ M' qc code x8, M qc = none → Dr c M M' → CoI code → (∀ s ∈ code, isStep b s = true) → M' qc = some (.lst (stepsD code)) → D0.nx (LV s0 p c a x q (.int (n : Nat)) qc x8 none none none none none none none none none) M') :
    (dSeq (dAsg (dLst (dNil)) (.nm 7)) (dFor (dRng1 (dCons (dVar 6) (dNil))) (.nm 8) (dDrop (dApp (dVar 7) (dOp oIx (dVar 5) (dOp oMod (dL oInt1 (dCons (dOp oAdd (dOp oMul (dCall sp_take (dCons (dVar 1) (dCons (dVar 2) (dCons (dC (.int 1009)) (dNil))))) (dC (.int 31))) (dCall sp_take (dCons (dVar 1) (dCons (dVar 2) (dCons (dC (.int 31)) (dNil)))))) (dNil))) (dL oLen (dCons (dVar 5) (dNil)))))))) : DS) D0 [some s0, some (.ref p), some (.ref c), some (.ref a), some (.ref x), some (.ref q), some (.int (n : Nat)), none, none, none, none, none, none, none, none, none, none, none] M := by
  have ok := L.ok
  refine ⟨Nat.zero_le _, fun qc hq0 => ?_⟩
  have xq := Ext.new (o := .lst []) hq0
  have qm : updM M qc (.lst []) qc = some (.lst (stepsD [])) := updM_same
  have qcc := L.dw.cne hq0
  generalize updM M qc (.lst []) = M1 at xq qm ⊢
  refine ⟨by omega, by omega, ?_⟩
  refine ⟨fun i E M' => Dr c M M' ∧ ∃ code : List ST, M' qc = some (.lst (stepsD code)) ∧ code.length ≤ i ∧ (∀ s ∈ code, s ∈ b.steps) ∧ ∃ x8 : Option D, E = LV s0 p c a x q (.int (n : Nat)) qc x8 none none none none none none none none none, ⟨.ofExt xq, [], qm, Nat.le_refl _, by simp, none, rfl⟩, fun _ _ _ _ => trivial, ?_, ?_⟩
  · rintro i E M' d hd ⟨hx, code, hm, hl, hmem, y8, rfl⟩
    obtain ⟨hi, rfl⟩ := rng_at hd
    have hi : i < n := by have : i < (n : Int).toNat := hi; omega
    refine ⟨⟨_, hm⟩, ?_⟩
    refine ⟨p, c, 1009, rfl, by decide, (L.go hx).dw, fun r1 hr1 M2 d2 => ?_⟩
    have hx2 := hx.trans d2
    refine ⟨.inl ⟨by omega, by omega⟩, p, c, 31, rfl, by decide, (L.go hx2).dw, fun r2 hr2 M3 d3 => ?_⟩
    have hx3 := hx2.trans d3
    have hq3 := hx3.ex _ _ hqc hq
    refine .inl ⟨_, hq3, by rw [stepsD_len]; omega, ?_⟩
    have em : ((r1 : Int) * 31 + (r2 : Int)) % ((stepsD b.steps).length : Int) = (((r1 * 31 + r2) % b.steps.length : Nat) : Int) := by rw [stepsD_len]; push_cast; rfl
    dsimp only
    rw [em]
    have hj : (r1 * 31 + r2) % b.steps.length < b.steps.length := Nat.mod_lt _ hp0
    generalize (r1 * 31 + r2) % b.steps.length = j at hj
    have hat := getE hj
    have hs := List.getElem_mem hj
    generalize b.steps[j] = s at hat hs
    refine .inl ⟨_, _, _, hq3, rfl, atI_nat (stepsD_at hat), ?_⟩
    refine ⟨_, d3.ex _ _ qcc (d2.ex _ _ qcc hm), tolist (by rw [stepsD_len]; omega), hx3.mut L.dw.cur hq0, code ++ [s], ?_, by rw [List.length_append]; show code.length + 1 ≤ i + 1; omega, fun y hy => ?_, _, rfl⟩
    · rw [updM_same]; unfold stepsD; rw [List.map_append]; rfl
    · rcases List.mem_append.mp hy with hy | hy
      · exact hmem y hy
      · cases List.mem_singleton.mp hy; exact hs
  rintro E M' ⟨hx, code, hm, hl, hmem, y8, rfl⟩
  rw [rng_len, show ((n : Nat) : Int).toNat = n by omega] at hl
  have hst : ∀ s ∈ code, isStep b s = true := fun s hs => steps_ok ok (hmem s hs)
  exact k M' qc code y8 hq0 hx ⟨⟨by omega, fun s hs => by have := step_src (hst s hs); omega⟩, fun s hs => step_strOk ok (hst s hs)⟩ hst hm
theorem t_lv5 (L : LI cl CB p c a aw ad x b M) (hp0 : 0 < b.steps.length) (hqc : q ≠ c) (hq : M q = some (.lst (stepsD b.steps))) (hQ : ∀ M', Q (.bl true) M') :
    b_lv5 sp_take sp_lplaces sp_lspoilt (sp_lbad cl CB) (sp_live_sets cl CB) sp_lsame sp_llive (sp_ltext cl CB) (En Q) [some s0, some (.ref p), some (.ref c), some (.ref a), some (.ref x), some (.ref q), none, none, none, none, none, none, none, none, none, none, none, none] M := by
  refine ⟨p, c, 13, rfl, by decide, L.dw, fun r hr M1 d1 => ?_⟩
  have L1 := L.go d1
  refine ⟨p, c, 16, rfl, by decide, L1.dw, fun r2 hr2 M2 d2 => ⟨fun _ => ?_, fun _ => ?_⟩⟩
  · have L2 := L1.go d2
    refine ⟨p, c, 14, rfl, by decide, L2.dw, fun r3 hr3 M3 d3 => ?_⟩
    have L3 := L2.go d3
    have := t_lv8 (n := 190 + r3) (s0 := s0) (D0 := { En Q with nx := b_lv9 sp_take sp_lplaces sp_lspoilt (sp_lbad cl CB) (sp_live_sets cl CB) sp_lsame sp_llive (sp_ltext cl CB) (En Q) }) (by omega) L3 hp0 hqc (d3.ex _ _ hqc (d2.ex _ _ hqc (d1.ex _ _ hqc hq))) fun M' qc code x8 hq0 d0 co hst hc => t_lv9 L3 d0 hq0 co hst hc hQ
    exact this
  · have L2 := L1.go d2
    exact t_lv8 (n := r) (s0 := s0) (D0 := { En Q with nx := b_lv9 sp_take sp_lplaces sp_lspoilt (sp_lbad cl CB) (sp_live_sets cl CB) sp_lsame sp_llive (sp_ltext cl CB) (En Q) }) (by omega) L2 hp0 hqc (d2.ex _ _ hqc (d1.ex _ _ hqc hq)) fun M' qc code x8 hq0 d0 co hst hc => t_lv9 L2 d0 hq0 co hst hc hQ
end
theorem steps_pos {b : BK} (ok : b.Ok) (h : ∃ d ∈ b.deeds, hasK d.2.2 = false) : 0 < b.steps.length := by
  obtain ⟨d, hd, hk⟩ := h
  have r1 := ok.r1
  have h1 : 0 < (deedSteps b d).length := by
    rw [deedSteps_eq]
    unfold stepCount
    rw [hk]
    exact Nat.mul_pos (Nat.mul_pos r1 (Nat.pow_pos r1)) (by simp)
  obtain ⟨s, hs⟩ := List.exists_mem_of_length_pos h1
  exact List.length_pos_of_mem (List.mem_flatMap.mpr ⟨d, hd, hs⟩)
theorem r_law_v5 (cl : CF) (CB : Addr) (hcb : ClB cl CB) : ∀ ds M Q E, Rd.sp_law ds M Q E → b_law_v5 CB (sp_Book cl CB) sp_stream sp_lbook2 sp_lsteps2 sp_take sp_lplaces sp_lspoilt (sp_lbad cl CB) (sp_live_sets cl CB) sp_lsame sp_llive (sp_ltext cl CB) (En Q) (startD 18 ds) M := by
  rintro ds M Q E ⟨ns, rfl, h63, hQ⟩
  refine ⟨ns, 120, rfl, h63, by decide, by decide, fun p M1 hp0 x1 hnums => ?_⟩
  refine ⟨by show 1 ≤ sizeLine; decide, fun c hc => ?_⟩
  have dw : Dw p c (updM M1 c (.lst [.int 0])) := by
    obtain ⟨xs, e1, e2⟩ := hnums
    have hne : p ≠ c := fun z => by subst z; rw [hc] at e1; cases e1
    exact ⟨hne, ⟨xs, by rw [updM_ne hne]; exact e1, e2⟩, ⟨0, updM_same⟩⟩
  generalize updM M1 c (.lst [.int 0]) = M2 at dw
  refine ⟨p, c, rfl, dw, fun a aw ad b M3 ok nz hpl da n0 n1 n2 d3 => ?_⟩
  have dw3 := dw.go d3
  refine .inl ⟨_, _, .int b.w, da.h0, rfl, at0, .inl ⟨_, _, .int b.r, da.h0, rfl, rfl, ?_⟩⟩
  refine .inl ⟨_, _, .ref aw, da.h0, rfl, rfl, _, da.h1, fun q1 hq1 => ?_⟩
  have xq1 := Ext.new (o := .lst (wds b.words)) hq1
  have mq1 : updM M3 q1 (.lst (wds b.words)) q1 = some (.lst (wds b.words)) := updM_same
  generalize updM M3 q1 (.lst (wds b.words)) = M4 at xq1 mq1 ⊢
  have da4 := da.ext xq1
  refine .inl ⟨_, _, .ref ad, da4.h0, rfl, rfl, _, da4.h2, fun q2 hq2 => ?_⟩
  have xq2 := Ext.new (o := .lst (b.deeds.map deedD)) hq2
  have mq2 : updM M4 q2 (.lst (b.deeds.map deedD)) q2 = some (.lst (b.deeds.map deedD)) := updM_same
  generalize updM M4 q2 (.lst (b.deeds.map deedD)) = M5 at xq2 mq2 ⊢
  have x5 := xq1.trans xq2
  refine fun x hx => ?_
  have xn : Ext M5 (updM M5 x (.ins CB [])) := Ext.new hx
  refine ⟨x, q1, q2, b, rfl, hcb, updM_same, xn _ _ (xq2 _ _ mq1), xn _ _ mq2, ok, fun M8 b8 bm => ⟨rfl, ?_⟩⟩
  have x58 : Ext M5 M8 := fun a' o h => by
    have hne : a' ≠ x := Ext.ne h hx
    exact b8 _ _ hne (xn _ _ h)
  have d8 : Dr c M3 M8 := .ofExt (x5.trans x58)
  have dw8 := dw3.go d8
  have da8 := da.go d8 n0 n1 n2
  have nx : x ≠ c := (dw3.go (.ofExt x5)).cne hx
  refine .inl ⟨_, _, .int b.r, da8.h0, rfl, rfl, ?_⟩
  refine ⟨a, aw, ad, b, rfl, da8, ok, fun q M9 hq x9 hqm => ?_⟩
  have nq := dw8.cne hq
  have L9 : LI cl CB p c a aw ad x b M9 := ⟨dw8.go (.ofExt x9), da8.ext x9, bm.ext x9, n0, n1, n2, nx, ok, nz⟩
  exact t_lv5 L9 (steps_pos ok hpl) nq hqm hQ
end Rv

set_option Elab.async false
set_option linter.all false
set_option autoImplicit false
set_option maxRecDepth 100000
set_option maxHeartbeats 0
namespace K78e
open PySem PySem.Spec PyProof.Rows L2 DH Bd K78
abbrev dd (x : Str) (i : Nat) : He.DefD := ⟨(x, none), x, x, defArgs (top i), defBody (top i), defScope (top i), [], []⟩
abbrev dm (c m q : Str) (i j : Nat) : He.DefD := ⟨(c, some m), m, q, defArgs (met i j), defBody (met i j), defScope (met i j), [], []⟩
def fn0 : List He.DefD := [dd "_wall" 0, dd "word_limit" 10, dd "signed_value" 11, dd "operate_one" 12, dd "operate_bits" 13, dd "operate_sum" 14, dd "operate_order" 15, dd "operate" 16, dd "is_name" 21, dd "is_value_name" 22, dd "formula_size" 23, dd "is_shaped" 24]
def fn1 : List He.DefD := [dd "is_formula" 25, dd "formula_names" 26, dd "formula_value" 27, dd "put_in" 28, dd "bad_input" 35, dd "bad_let" 36, dd "bad_out" 37, ⟨("first_bad_line_texts", none), "first_bad_line", "first_bad_line", defArgs (top 38), defBody (top 38), defScope (top 38), [], []⟩, dd "row_env" 40, dd "text_outputs" 41, dd "check_code" 44, dd "code_text" 47]
def fn2 : List He.DefD := [dd "live_ahead" 49, dd "live_sets" 50, dd "window_places" 51, dd "window_text" 52, dd "source_count" 59, dd "takes_word" 60, dd "source_rows" 61, dd "bad_deed" 62, dd "bad_words" 63, ⟨("first_bad_line_books", none), "first_bad_line", "first_bad_line", defArgs (top 64), defBody (top 64), defScope (top 64), [], []⟩, dd "_law_mix" 67, dd "_law_stream" 68]
def fn3 : List He.DefD := [dd "_law_take" 69, dd "_law_two" 70, dd "_law_value" 71, dd "_law_names" 72, dd "_law_formula" 73, dd "_law_book" 74, dd "_law_rows" 75, dd "_law_steps" 76, dd "_law_deed" 77, dd "_law_after" 78, dd "_law_spoilt" 79, dd "_law_live" 80]
def fn4 : List He.DefD := [dd "_law_windows" 81, dd "_law_is_whole" 82, dd "_law_same" 83, dd "_law_bad" 84, dd "_law_text_asked" 85, dd "_law_places_asked" 86, dd "law" 87, dm "Text" "__init__" "Text.__init__" 34 0, dm "Book" "__init__" "Book.__init__" 58 0, dm "Book" "deed" "Book.deed" 58 1, dm "Book" "is_step" "Book.is_step" 58 2, dm "Book" "steps" "Book.steps" 58 3]
def fn5 : List He.DefD := [dm "Book" "codes_within" "Book.codes_within" 58 4, dm "BadCode" "__init__" "BadCode.__init__" 5 0, dm "TooMany" "__init__" "TooMany.__init__" 6 0]
def fn : List He.DefD := fn0 ++ (fn1 ++ (fn2 ++ (fn3 ++ (fn4 ++ (fn5)))))
def fa0 : List He.Fa := [.glo "_wall", .glo "word_limit", .glo "signed_value", .glo "operate_one", .glo "operate_bits", .glo "operate_sum", .glo "operate_order", .glo "operate", .glo "is_name", .glo "is_value_name", .glo "formula_size", .glo "is_shaped", .glo "is_formula", .glo "formula_names", .glo "formula_value"]
def fa1 : List He.Fa := [.glo "put_in", .glo "bad_input", .glo "bad_let", .glo "bad_out", .glo "first_bad_line_texts", .glo "row_env", .glo "text_outputs", .glo "check_code", .glo "code_text", .glo "live_ahead", .glo "live_sets", .glo "window_places", .glo "window_text", .glo "source_count", .glo "takes_word"]
def fa2 : List He.Fa := [.glo "source_rows", .glo "bad_deed", .glo "bad_words", .glo "first_bad_line_books", .glo "_law_mix", .glo "_law_stream", .glo "_law_take", .glo "_law_two", .glo "_law_value", .glo "_law_names", .glo "_law_formula", .glo "_law_book", .glo "_law_rows", .glo "_law_steps", .glo "_law_deed"]
def fa3 : List He.Fa := [.glo "_law_after", .glo "_law_spoilt", .glo "_law_live", .glo "_law_windows", .glo "_law_is_whole", .glo "_law_same", .glo "_law_bad", .glo "_law_text_asked", .glo "_law_places_asked", .glo "law", .glo "ARITY", .str "LETTERS" "abcdefghijklmnopqrstuvwxyz", .str "DIGITS" "0123456789", .int "MOST_DEPTH" 6, .int "MOST_SIZE" 15]
def fa4 : List He.Fa := [.int "MOST_LETS" 60, .int "MOST_NEEDS" 2, .int "MOST_BITS" 8, .int "MOST_STEPS" 200, .int "MOST_LINES" 60, .int "MOST_STATE_BITS" 8, .int "MOST_DEEDS" 6, .int "MOST_PRICE" 9, .int "DEED_SIZE" 9, .free "ValueError", .free "abs", .free "all", .free "bool", .free "enumerate", .free "int"]
def fa5 : List He.Fa := [.free "isinstance", .free "len", .free "list", .free "min", .free "range", .free "set", .free "sorted", .free "str", .free "tuple", .free "zip", .glo "Text", .cls "Text", .mkr "Text", .noat "Text" "width", .noat "Text" "inputs"]
def fa6 : List He.Fa := [.noat "Text" "needs", .noat "Text" "lets", .noat "Text" "outs", .glo "Book", .cls "Book", .mkr "Book", .noat "Book" "width", .noat "Book" "registers", .noat "Book" "words", .noat "Book" "deeds", .meth "Book" "deed", .meth "Book" "is_step", .meth "Book" "steps", .meth "Book" "codes_within", .glo "BadCode"]
def fa7 : List He.Fa := [.glo "NoneshorterError", .glo "Text", .glo "TooMany"]
def fa : List He.Fa := fa0 ++ (fa1 ++ (fa2 ++ (fa3 ++ (fa4 ++ (fa5 ++ (fa6 ++ (fa7)))))))
def ts : List He.Tab := [(fun K => He.ga K "ARITY", kv_ARITY.map (·.1))]
def ex (K : PySem.W.Frag) : Bool := He.valsB K (He.ga K "ARITY") (kv_ARITY.map fun q => (q.1, toDv q.2)) && (excB K (He.ga K "BadCode") "at" && (excB K (He.ga K "TooMany") "limit" && (baseB K (He.ga K "NoneshorterError") && (xcB K (He.ga K "BadCode") "at" && (isCB K (He.ga K "Text") && (oB (PySem.W.exmOne K (.ref (He.ga K "BadCode")) (.ref (He.ga K "BadCode"))) true && (oB (PySem.W.kitOne K (.ref (He.ga K "BadCode")) (.ref (He.ga K "NoneshorterError"))) true && (oB (PySem.W.kitOne K (.ref (He.ga K "BadCode")) (.ref (He.ga K "TooMany"))) false && (oB (PySem.W.kitOne K (.ref (He.ga K "Text")) (.ref (He.ga K "Text"))) true)))))))))
def names0 : List PySem.Str := ["_wall", "NoneshorterError", "BadText", "BadBook", "BadCode", "TooMany", "NoName", "ARITY", "word_limit", "signed_value", "operate_one", "operate_bits", "operate_sum", "operate_order", "operate"]
def names1 : List PySem.Str := ["LETTERS", "DIGITS", "MOST_DEPTH", "is_name", "is_value_name", "formula_size", "is_shaped", "is_formula", "formula_names", "formula_value", "put_in", "MOST_SIZE", "MOST_LETS", "MOST_NEEDS", "MOST_BITS"]
def names2 : List PySem.Str := ["Text", "bad_input", "bad_let", "bad_out", "first_bad_line", "first_bad_line_texts", "row_env", "text_outputs", "MOST_STEPS", "check_code", "MOST_LINES", "code_text", "live_ahead", "live_sets", "window_places"]
def names3 : List PySem.Str := ["window_text", "MOST_STATE_BITS", "MOST_DEEDS", "MOST_PRICE", "DEED_SIZE", "Book", "source_count", "takes_word", "source_rows", "bad_deed", "bad_words", "first_bad_line_books", "_law_mix", "_law_stream", "_law_take"]
def names4 : List PySem.Str := ["_law_two", "_law_value", "_law_names", "_law_formula", "_law_book", "_law_rows", "_law_steps", "_law_deed", "_law_after", "_law_spoilt", "_law_live", "_law_windows", "_law_is_whole", "_law_same", "_law_bad"]
def names5 : List PySem.Str := ["_law_text_asked", "_law_places_asked"]
def names : List PySem.Str := names0 ++ names1 ++ names2 ++ names3 ++ names4 ++ names5
abbrev R : PySem.W.OpenRow := PySem.W.OpenLaw.row PySem.Challenge.rw_noneshorter_k78_live_sets
abbrev hk : PySem.W.Hook := hookY 4 fa fn ts ex
def ob (s : PySem.W.SharedT) : He.AlX := obsY 4 fa fn ts ex (HandSHeadRun.getT s)
theorem ob_eq (s : PySem.W.SharedT) : ob s = hk.obs s.abs := obsY_eq (HandSHeadRun.getT_eq s)
theorem run_f (w : World) : HandSHeadRun.RunEq R (PySem.W.view R.prog [87]) hk ob 12000 names (w.withFollow "special-get-raises" false) := by
  intro os
  kernel_rfl
theorem run_t (w : World) : HandSHeadRun.RunEq R (PySem.W.view R.prog [87]) hk ob 12000 names (w.withFollow "special-get-raises" true) := by
  intro os
  kernel_rfl
theorem run (w : World) : HandSHeadRun.RunEq R (PySem.W.view R.prog [87]) hk ob 12000 names w := PySem.W.byRow2 "special-get-raises" (P := fun w => HandSHeadRun.RunEq R (PySem.W.view R.prog [87]) hk ob 12000 names w) run_f run_t w
section
variable {P : Program} {w : World} {K : PySem.W.Frag} {h : Heap} {mg : Str → Option Value} {base : Heap}
theorem gb (X : K.In h) (G : h.Ns mainGlobals mg) (c : He.SaysX fa fn ts [] ex w h K) : Gb K w mg where
  ValueError := He.free_ok X G (c.t.d.fact 69 (f := .free "ValueError") rfl)
  abs := He.free_ok X G (c.t.d.fact 70 (f := .free "abs") rfl)
  all := He.free_ok X G (c.t.d.fact 71 (f := .free "all") rfl)
  bool := He.free_ok X G (c.t.d.fact 72 (f := .free "bool") rfl)
  enumerate := He.free_ok X G (c.t.d.fact 73 (f := .free "enumerate") rfl)
  int := He.free_ok X G (c.t.d.fact 74 (f := .free "int") rfl)
  isinstance := He.free_ok X G (c.t.d.fact 75 (f := .free "isinstance") rfl)
  len := He.free_ok X G (c.t.d.fact 76 (f := .free "len") rfl)
  list := He.free_ok X G (c.t.d.fact 77 (f := .free "list") rfl)
  min := He.free_ok X G (c.t.d.fact 78 (f := .free "min") rfl)
  range := He.free_ok X G (c.t.d.fact 79 (f := .free "range") rfl)
  set := He.free_ok X G (c.t.d.fact 80 (f := .free "set") rfl)
  sorted := He.free_ok X G (c.t.d.fact 81 (f := .free "sorted") rfl)
  str := He.free_ok X G (c.t.d.fact 82 (f := .free "str") rfl)
  tuple := He.free_ok X G (c.t.d.fact 83 (f := .free "tuple") rfl)
  zip := He.free_ok X G (c.t.d.fact 84 (f := .free "zip") rfl)
  c_ARITY := ⟨_, He.glo_ok X G (c.t.d.fact 55 (f := .glo "ARITY") rfl), kdAt_of (tab_of c.t 0 (t := (fun K => He.ga K "ARITY", kv_ARITY.map (·.1))) rfl) (He.ba c.more).1 (by decide) (by decide +kernel)⟩
  c_LETTERS := He.str_ok X G (c.t.d.fact 56 (f := .str "LETTERS" "abcdefghijklmnopqrstuvwxyz") rfl)
  c_DIGITS := He.str_ok X G (c.t.d.fact 57 (f := .str "DIGITS" "0123456789") rfl)
  c_MOST_DEPTH := He.int_ok X G (c.t.d.fact 58 (f := .int "MOST_DEPTH" 6) rfl)
  c_MOST_SIZE := He.int_ok X G (c.t.d.fact 59 (f := .int "MOST_SIZE" 15) rfl)
  c_MOST_LETS := He.int_ok X G (c.t.d.fact 60 (f := .int "MOST_LETS" 60) rfl)
  c_MOST_NEEDS := He.int_ok X G (c.t.d.fact 61 (f := .int "MOST_NEEDS" 2) rfl)
  c_MOST_BITS := He.int_ok X G (c.t.d.fact 62 (f := .int "MOST_BITS" 8) rfl)
  c_MOST_STEPS := He.int_ok X G (c.t.d.fact 63 (f := .int "MOST_STEPS" 200) rfl)
  c_MOST_LINES := He.int_ok X G (c.t.d.fact 64 (f := .int "MOST_LINES" 60) rfl)
  c_MOST_STATE_BITS := He.int_ok X G (c.t.d.fact 65 (f := .int "MOST_STATE_BITS" 8) rfl)
  c_MOST_DEEDS := He.int_ok X G (c.t.d.fact 66 (f := .int "MOST_DEEDS" 6) rfl)
  c_MOST_PRICE := He.int_ok X G (c.t.d.fact 67 (f := .int "MOST_PRICE" 9) rfl)
  c_DEED_SIZE := He.int_ok X G (c.t.d.fact 68 (f := .int "DEED_SIZE" 9) rfl)
theorem t_word_limit (X : K.In h) (G : h.Ns mainGlobals mg) (c : He.SaysX fa fn ts [] ex w h K) : Top K mg "word_limit" (top 10) :=
  let ⟨fd, F⟩ := c.t.d.def_ 1 (d := dd "word_limit" 10) rfl; ⟨_, fd, F, He.glo_ok X G (c.t.d.fact 1 (f := .glo "word_limit") rfl)⟩
theorem t_signed_value (X : K.In h) (G : h.Ns mainGlobals mg) (c : He.SaysX fa fn ts [] ex w h K) : Top K mg "signed_value" (top 11) :=
  let ⟨fd, F⟩ := c.t.d.def_ 2 (d := dd "signed_value" 11) rfl; ⟨_, fd, F, He.glo_ok X G (c.t.d.fact 2 (f := .glo "signed_value") rfl)⟩
theorem t_operate_one (X : K.In h) (G : h.Ns mainGlobals mg) (c : He.SaysX fa fn ts [] ex w h K) : Top K mg "operate_one" (top 12) :=
  let ⟨fd, F⟩ := c.t.d.def_ 3 (d := dd "operate_one" 12) rfl; ⟨_, fd, F, He.glo_ok X G (c.t.d.fact 3 (f := .glo "operate_one") rfl)⟩
theorem t_operate_bits (X : K.In h) (G : h.Ns mainGlobals mg) (c : He.SaysX fa fn ts [] ex w h K) : Top K mg "operate_bits" (top 13) :=
  let ⟨fd, F⟩ := c.t.d.def_ 4 (d := dd "operate_bits" 13) rfl; ⟨_, fd, F, He.glo_ok X G (c.t.d.fact 4 (f := .glo "operate_bits") rfl)⟩
theorem t_operate_sum (X : K.In h) (G : h.Ns mainGlobals mg) (c : He.SaysX fa fn ts [] ex w h K) : Top K mg "operate_sum" (top 14) :=
  let ⟨fd, F⟩ := c.t.d.def_ 5 (d := dd "operate_sum" 14) rfl; ⟨_, fd, F, He.glo_ok X G (c.t.d.fact 5 (f := .glo "operate_sum") rfl)⟩
theorem t_operate_order (X : K.In h) (G : h.Ns mainGlobals mg) (c : He.SaysX fa fn ts [] ex w h K) : Top K mg "operate_order" (top 15) :=
  let ⟨fd, F⟩ := c.t.d.def_ 6 (d := dd "operate_order" 15) rfl; ⟨_, fd, F, He.glo_ok X G (c.t.d.fact 6 (f := .glo "operate_order") rfl)⟩
theorem t_operate (X : K.In h) (G : h.Ns mainGlobals mg) (c : He.SaysX fa fn ts [] ex w h K) : Top K mg "operate" (top 16) :=
  let ⟨fd, F⟩ := c.t.d.def_ 7 (d := dd "operate" 16) rfl; ⟨_, fd, F, He.glo_ok X G (c.t.d.fact 7 (f := .glo "operate") rfl)⟩
theorem t_is_name (X : K.In h) (G : h.Ns mainGlobals mg) (c : He.SaysX fa fn ts [] ex w h K) : Top K mg "is_name" (top 21) :=
  let ⟨fd, F⟩ := c.t.d.def_ 8 (d := dd "is_name" 21) rfl; ⟨_, fd, F, He.glo_ok X G (c.t.d.fact 8 (f := .glo "is_name") rfl)⟩
theorem t_is_value_name (X : K.In h) (G : h.Ns mainGlobals mg) (c : He.SaysX fa fn ts [] ex w h K) : Top K mg "is_value_name" (top 22) :=
  let ⟨fd, F⟩ := c.t.d.def_ 9 (d := dd "is_value_name" 22) rfl; ⟨_, fd, F, He.glo_ok X G (c.t.d.fact 9 (f := .glo "is_value_name") rfl)⟩
theorem t_formula_size (X : K.In h) (G : h.Ns mainGlobals mg) (c : He.SaysX fa fn ts [] ex w h K) : Top K mg "formula_size" (top 23) :=
  let ⟨fd, F⟩ := c.t.d.def_ 10 (d := dd "formula_size" 23) rfl; ⟨_, fd, F, He.glo_ok X G (c.t.d.fact 10 (f := .glo "formula_size") rfl)⟩
theorem t_is_shaped (X : K.In h) (G : h.Ns mainGlobals mg) (c : He.SaysX fa fn ts [] ex w h K) : Top K mg "is_shaped" (top 24) :=
  let ⟨fd, F⟩ := c.t.d.def_ 11 (d := dd "is_shaped" 24) rfl; ⟨_, fd, F, He.glo_ok X G (c.t.d.fact 11 (f := .glo "is_shaped") rfl)⟩
theorem t_is_formula (X : K.In h) (G : h.Ns mainGlobals mg) (c : He.SaysX fa fn ts [] ex w h K) : Top K mg "is_formula" (top 25) :=
  let ⟨fd, F⟩ := c.t.d.def_ 12 (d := dd "is_formula" 25) rfl; ⟨_, fd, F, He.glo_ok X G (c.t.d.fact 12 (f := .glo "is_formula") rfl)⟩
theorem t_formula_names (X : K.In h) (G : h.Ns mainGlobals mg) (c : He.SaysX fa fn ts [] ex w h K) : Top K mg "formula_names" (top 26) :=
  let ⟨fd, F⟩ := c.t.d.def_ 13 (d := dd "formula_names" 26) rfl; ⟨_, fd, F, He.glo_ok X G (c.t.d.fact 13 (f := .glo "formula_names") rfl)⟩
theorem t_formula_value (X : K.In h) (G : h.Ns mainGlobals mg) (c : He.SaysX fa fn ts [] ex w h K) : Top K mg "formula_value" (top 27) :=
  let ⟨fd, F⟩ := c.t.d.def_ 14 (d := dd "formula_value" 27) rfl; ⟨_, fd, F, He.glo_ok X G (c.t.d.fact 14 (f := .glo "formula_value") rfl)⟩
theorem t_put_in (X : K.In h) (G : h.Ns mainGlobals mg) (c : He.SaysX fa fn ts [] ex w h K) : Top K mg "put_in" (top 28) :=
  let ⟨fd, F⟩ := c.t.d.def_ 15 (d := dd "put_in" 28) rfl; ⟨_, fd, F, He.glo_ok X G (c.t.d.fact 15 (f := .glo "put_in") rfl)⟩
theorem t_bad_input (X : K.In h) (G : h.Ns mainGlobals mg) (c : He.SaysX fa fn ts [] ex w h K) : Top K mg "bad_input" (top 35) :=
  let ⟨fd, F⟩ := c.t.d.def_ 16 (d := dd "bad_input" 35) rfl; ⟨_, fd, F, He.glo_ok X G (c.t.d.fact 16 (f := .glo "bad_input") rfl)⟩
theorem t_bad_let (X : K.In h) (G : h.Ns mainGlobals mg) (c : He.SaysX fa fn ts [] ex w h K) : Top K mg "bad_let" (top 36) :=
  let ⟨fd, F⟩ := c.t.d.def_ 17 (d := dd "bad_let" 36) rfl; ⟨_, fd, F, He.glo_ok X G (c.t.d.fact 17 (f := .glo "bad_let") rfl)⟩
theorem t_bad_out (X : K.In h) (G : h.Ns mainGlobals mg) (c : He.SaysX fa fn ts [] ex w h K) : Top K mg "bad_out" (top 37) :=
  let ⟨fd, F⟩ := c.t.d.def_ 18 (d := dd "bad_out" 37) rfl; ⟨_, fd, F, He.glo_ok X G (c.t.d.fact 18 (f := .glo "bad_out") rfl)⟩
theorem t_first_bad_line_texts (X : K.In h) (G : h.Ns mainGlobals mg) (c : He.SaysX fa fn ts [] ex w h K) : TopA K mg "first_bad_line_texts" "first_bad_line" (top 38) :=
  let ⟨fd, F⟩ := c.t.d.def_ 19 (d := (⟨("first_bad_line_texts", none), "first_bad_line", "first_bad_line", defArgs (top 38), defBody (top 38), defScope (top 38), [], []⟩ : He.DefD)) rfl; ⟨_, fd, F, He.glo_ok X G (c.t.d.fact 19 (f := .glo "first_bad_line_texts") rfl)⟩
theorem t_row_env (X : K.In h) (G : h.Ns mainGlobals mg) (c : He.SaysX fa fn ts [] ex w h K) : Top K mg "row_env" (top 40) :=
  let ⟨fd, F⟩ := c.t.d.def_ 20 (d := dd "row_env" 40) rfl; ⟨_, fd, F, He.glo_ok X G (c.t.d.fact 20 (f := .glo "row_env") rfl)⟩
theorem t_text_outputs (X : K.In h) (G : h.Ns mainGlobals mg) (c : He.SaysX fa fn ts [] ex w h K) : Top K mg "text_outputs" (top 41) :=
  let ⟨fd, F⟩ := c.t.d.def_ 21 (d := dd "text_outputs" 41) rfl; ⟨_, fd, F, He.glo_ok X G (c.t.d.fact 21 (f := .glo "text_outputs") rfl)⟩
theorem t_check_code (X : K.In h) (G : h.Ns mainGlobals mg) (c : He.SaysX fa fn ts [] ex w h K) : Top K mg "check_code" (top 44) :=
  let ⟨fd, F⟩ := c.t.d.def_ 22 (d := dd "check_code" 44) rfl; ⟨_, fd, F, He.glo_ok X G (c.t.d.fact 22 (f := .glo "check_code") rfl)⟩
theorem t_code_text (X : K.In h) (G : h.Ns mainGlobals mg) (c : He.SaysX fa fn ts [] ex w h K) : Top K mg "code_text" (top 47) :=
  let ⟨fd, F⟩ := c.t.d.def_ 23 (d := dd "code_text" 47) rfl; ⟨_, fd, F, He.glo_ok X G (c.t.d.fact 23 (f := .glo "code_text") rfl)⟩
theorem t_live_ahead (X : K.In h) (G : h.Ns mainGlobals mg) (c : He.SaysX fa fn ts [] ex w h K) : Top K mg "live_ahead" (top 49) :=
  let ⟨fd, F⟩ := c.t.d.def_ 24 (d := dd "live_ahead" 49) rfl; ⟨_, fd, F, He.glo_ok X G (c.t.d.fact 24 (f := .glo "live_ahead") rfl)⟩
theorem t_live_sets (X : K.In h) (G : h.Ns mainGlobals mg) (c : He.SaysX fa fn ts [] ex w h K) : Top K mg "live_sets" (top 50) :=
  let ⟨fd, F⟩ := c.t.d.def_ 25 (d := dd "live_sets" 50) rfl; ⟨_, fd, F, He.glo_ok X G (c.t.d.fact 25 (f := .glo "live_sets") rfl)⟩
theorem t_window_places (X : K.In h) (G : h.Ns mainGlobals mg) (c : He.SaysX fa fn ts [] ex w h K) : Top K mg "window_places" (top 51) :=
  let ⟨fd, F⟩ := c.t.d.def_ 26 (d := dd "window_places" 51) rfl; ⟨_, fd, F, He.glo_ok X G (c.t.d.fact 26 (f := .glo "window_places") rfl)⟩
theorem t_window_text (X : K.In h) (G : h.Ns mainGlobals mg) (c : He.SaysX fa fn ts [] ex w h K) : Top K mg "window_text" (top 52) :=
  let ⟨fd, F⟩ := c.t.d.def_ 27 (d := dd "window_text" 52) rfl; ⟨_, fd, F, He.glo_ok X G (c.t.d.fact 27 (f := .glo "window_text") rfl)⟩
theorem t_source_count (X : K.In h) (G : h.Ns mainGlobals mg) (c : He.SaysX fa fn ts [] ex w h K) : Top K mg "source_count" (top 59) :=
  let ⟨fd, F⟩ := c.t.d.def_ 28 (d := dd "source_count" 59) rfl; ⟨_, fd, F, He.glo_ok X G (c.t.d.fact 28 (f := .glo "source_count") rfl)⟩
theorem t_takes_word (X : K.In h) (G : h.Ns mainGlobals mg) (c : He.SaysX fa fn ts [] ex w h K) : Top K mg "takes_word" (top 60) :=
  let ⟨fd, F⟩ := c.t.d.def_ 29 (d := dd "takes_word" 60) rfl; ⟨_, fd, F, He.glo_ok X G (c.t.d.fact 29 (f := .glo "takes_word") rfl)⟩
theorem t_bad_deed (X : K.In h) (G : h.Ns mainGlobals mg) (c : He.SaysX fa fn ts [] ex w h K) : Top K mg "bad_deed" (top 62) :=
  let ⟨fd, F⟩ := c.t.d.def_ 31 (d := dd "bad_deed" 62) rfl; ⟨_, fd, F, He.glo_ok X G (c.t.d.fact 31 (f := .glo "bad_deed") rfl)⟩
theorem t_bad_words (X : K.In h) (G : h.Ns mainGlobals mg) (c : He.SaysX fa fn ts [] ex w h K) : Top K mg "bad_words" (top 63) :=
  let ⟨fd, F⟩ := c.t.d.def_ 32 (d := dd "bad_words" 63) rfl; ⟨_, fd, F, He.glo_ok X G (c.t.d.fact 32 (f := .glo "bad_words") rfl)⟩
theorem t_first_bad_line_books (X : K.In h) (G : h.Ns mainGlobals mg) (c : He.SaysX fa fn ts [] ex w h K) : TopA K mg "first_bad_line_books" "first_bad_line" (top 64) :=
  let ⟨fd, F⟩ := c.t.d.def_ 33 (d := (⟨("first_bad_line_books", none), "first_bad_line", "first_bad_line", defArgs (top 64), defBody (top 64), defScope (top 64), [], []⟩ : He.DefD)) rfl; ⟨_, fd, F, He.glo_ok X G (c.t.d.fact 33 (f := .glo "first_bad_line_books") rfl)⟩
theorem t__law_mix (X : K.In h) (G : h.Ns mainGlobals mg) (c : He.SaysX fa fn ts [] ex w h K) : Top K mg "_law_mix" (top 67) :=
  let ⟨fd, F⟩ := c.t.d.def_ 34 (d := dd "_law_mix" 67) rfl; ⟨_, fd, F, He.glo_ok X G (c.t.d.fact 34 (f := .glo "_law_mix") rfl)⟩
theorem t__law_stream (X : K.In h) (G : h.Ns mainGlobals mg) (c : He.SaysX fa fn ts [] ex w h K) : Top K mg "_law_stream" (top 68) :=
  let ⟨fd, F⟩ := c.t.d.def_ 35 (d := dd "_law_stream" 68) rfl; ⟨_, fd, F, He.glo_ok X G (c.t.d.fact 35 (f := .glo "_law_stream") rfl)⟩
theorem t__law_take (X : K.In h) (G : h.Ns mainGlobals mg) (c : He.SaysX fa fn ts [] ex w h K) : Top K mg "_law_take" (top 69) :=
  let ⟨fd, F⟩ := c.t.d.def_ 36 (d := dd "_law_take" 69) rfl; ⟨_, fd, F, He.glo_ok X G (c.t.d.fact 36 (f := .glo "_law_take") rfl)⟩
theorem t__law_two (X : K.In h) (G : h.Ns mainGlobals mg) (c : He.SaysX fa fn ts [] ex w h K) : Top K mg "_law_two" (top 70) :=
  let ⟨fd, F⟩ := c.t.d.def_ 37 (d := dd "_law_two" 70) rfl; ⟨_, fd, F, He.glo_ok X G (c.t.d.fact 37 (f := .glo "_law_two") rfl)⟩
theorem t__law_value (X : K.In h) (G : h.Ns mainGlobals mg) (c : He.SaysX fa fn ts [] ex w h K) : Top K mg "_law_value" (top 71) :=
  let ⟨fd, F⟩ := c.t.d.def_ 38 (d := dd "_law_value" 71) rfl; ⟨_, fd, F, He.glo_ok X G (c.t.d.fact 38 (f := .glo "_law_value") rfl)⟩
theorem t__law_names (X : K.In h) (G : h.Ns mainGlobals mg) (c : He.SaysX fa fn ts [] ex w h K) : Top K mg "_law_names" (top 72) :=
  let ⟨fd, F⟩ := c.t.d.def_ 39 (d := dd "_law_names" 72) rfl; ⟨_, fd, F, He.glo_ok X G (c.t.d.fact 39 (f := .glo "_law_names") rfl)⟩
theorem t__law_formula (X : K.In h) (G : h.Ns mainGlobals mg) (c : He.SaysX fa fn ts [] ex w h K) : Top K mg "_law_formula" (top 73) :=
  let ⟨fd, F⟩ := c.t.d.def_ 40 (d := dd "_law_formula" 73) rfl; ⟨_, fd, F, He.glo_ok X G (c.t.d.fact 40 (f := .glo "_law_formula") rfl)⟩
theorem t__law_book (X : K.In h) (G : h.Ns mainGlobals mg) (c : He.SaysX fa fn ts [] ex w h K) : Top K mg "_law_book" (top 74) :=
  let ⟨fd, F⟩ := c.t.d.def_ 41 (d := dd "_law_book" 74) rfl; ⟨_, fd, F, He.glo_ok X G (c.t.d.fact 41 (f := .glo "_law_book") rfl)⟩
theorem t__law_rows (X : K.In h) (G : h.Ns mainGlobals mg) (c : He.SaysX fa fn ts [] ex w h K) : Top K mg "_law_rows" (top 75) :=
  let ⟨fd, F⟩ := c.t.d.def_ 42 (d := dd "_law_rows" 75) rfl; ⟨_, fd, F, He.glo_ok X G (c.t.d.fact 42 (f := .glo "_law_rows") rfl)⟩
theorem t__law_steps (X : K.In h) (G : h.Ns mainGlobals mg) (c : He.SaysX fa fn ts [] ex w h K) : Top K mg "_law_steps" (top 76) :=
  let ⟨fd, F⟩ := c.t.d.def_ 43 (d := dd "_law_steps" 76) rfl; ⟨_, fd, F, He.glo_ok X G (c.t.d.fact 43 (f := .glo "_law_steps") rfl)⟩
theorem t__law_deed (X : K.In h) (G : h.Ns mainGlobals mg) (c : He.SaysX fa fn ts [] ex w h K) : Top K mg "_law_deed" (top 77) :=
  let ⟨fd, F⟩ := c.t.d.def_ 44 (d := dd "_law_deed" 77) rfl; ⟨_, fd, F, He.glo_ok X G (c.t.d.fact 44 (f := .glo "_law_deed") rfl)⟩
theorem t__law_after (X : K.In h) (G : h.Ns mainGlobals mg) (c : He.SaysX fa fn ts [] ex w h K) : Top K mg "_law_after" (top 78) :=
  let ⟨fd, F⟩ := c.t.d.def_ 45 (d := dd "_law_after" 78) rfl; ⟨_, fd, F, He.glo_ok X G (c.t.d.fact 45 (f := .glo "_law_after") rfl)⟩
theorem t__law_spoilt (X : K.In h) (G : h.Ns mainGlobals mg) (c : He.SaysX fa fn ts [] ex w h K) : Top K mg "_law_spoilt" (top 79) :=
  let ⟨fd, F⟩ := c.t.d.def_ 46 (d := dd "_law_spoilt" 79) rfl; ⟨_, fd, F, He.glo_ok X G (c.t.d.fact 46 (f := .glo "_law_spoilt") rfl)⟩
theorem t__law_live (X : K.In h) (G : h.Ns mainGlobals mg) (c : He.SaysX fa fn ts [] ex w h K) : Top K mg "_law_live" (top 80) :=
  let ⟨fd, F⟩ := c.t.d.def_ 47 (d := dd "_law_live" 80) rfl; ⟨_, fd, F, He.glo_ok X G (c.t.d.fact 47 (f := .glo "_law_live") rfl)⟩
theorem t__law_windows (X : K.In h) (G : h.Ns mainGlobals mg) (c : He.SaysX fa fn ts [] ex w h K) : Top K mg "_law_windows" (top 81) :=
  let ⟨fd, F⟩ := c.t.d.def_ 48 (d := dd "_law_windows" 81) rfl; ⟨_, fd, F, He.glo_ok X G (c.t.d.fact 48 (f := .glo "_law_windows") rfl)⟩
theorem t__law_is_whole (X : K.In h) (G : h.Ns mainGlobals mg) (c : He.SaysX fa fn ts [] ex w h K) : Top K mg "_law_is_whole" (top 82) :=
  let ⟨fd, F⟩ := c.t.d.def_ 49 (d := dd "_law_is_whole" 82) rfl; ⟨_, fd, F, He.glo_ok X G (c.t.d.fact 49 (f := .glo "_law_is_whole") rfl)⟩
theorem t__law_same (X : K.In h) (G : h.Ns mainGlobals mg) (c : He.SaysX fa fn ts [] ex w h K) : Top K mg "_law_same" (top 83) :=
  let ⟨fd, F⟩ := c.t.d.def_ 50 (d := dd "_law_same" 83) rfl; ⟨_, fd, F, He.glo_ok X G (c.t.d.fact 50 (f := .glo "_law_same") rfl)⟩
theorem t__law_bad (X : K.In h) (G : h.Ns mainGlobals mg) (c : He.SaysX fa fn ts [] ex w h K) : Top K mg "_law_bad" (top 84) :=
  let ⟨fd, F⟩ := c.t.d.def_ 51 (d := dd "_law_bad" 84) rfl; ⟨_, fd, F, He.glo_ok X G (c.t.d.fact 51 (f := .glo "_law_bad") rfl)⟩
theorem t__law_text_asked (X : K.In h) (G : h.Ns mainGlobals mg) (c : He.SaysX fa fn ts [] ex w h K) : Top K mg "_law_text_asked" (top 85) :=
  let ⟨fd, F⟩ := c.t.d.def_ 52 (d := dd "_law_text_asked" 85) rfl; ⟨_, fd, F, He.glo_ok X G (c.t.d.fact 52 (f := .glo "_law_text_asked") rfl)⟩
theorem t__law_places_asked (X : K.In h) (G : h.Ns mainGlobals mg) (c : He.SaysX fa fn ts [] ex w h K) : Top K mg "_law_places_asked" (top 86) :=
  let ⟨fd, F⟩ := c.t.d.def_ 53 (d := dd "_law_places_asked" 86) rfl; ⟨_, fd, F, He.glo_ok X G (c.t.d.fact 53 (f := .glo "_law_places_asked") rfl)⟩
theorem cl_Text (c : He.SaysX fa fn ts [] ex w h K) : ∀ f ∈ (["width", "inputs", "needs", "lets", "outs"] : List Str), (fun C f => Cls K C ∧ NoAttr K C f) (He.ga K "Text") f := fun f hf => by
  refine ⟨He.cls_ok (c.t.d.fact 86 (f := .cls "Text") rfl), ?_⟩
  simp only [List.mem_cons, List.not_mem_nil, or_false] at hf
  rcases hf with rfl | rfl | rfl | rfl | rfl
  · exact He.noat_ok (c.t.d.fact 88 (f := .noat "Text" "width") rfl)
  · exact He.noat_ok (c.t.d.fact 89 (f := .noat "Text" "inputs") rfl)
  · exact He.noat_ok (c.t.d.fact 90 (f := .noat "Text" "needs") rfl)
  · exact He.noat_ok (c.t.d.fact 91 (f := .noat "Text" "lets") rfl)
  · exact He.noat_ok (c.t.d.fact 92 (f := .noat "Text" "outs") rfl)
theorem cl_Book (c : He.SaysX fa fn ts [] ex w h K) : ∀ f ∈ (["width", "registers", "words", "deeds"] : List Str), (fun C f => Cls K C ∧ NoAttr K C f) (He.ga K "Book") f := fun f hf => by
  refine ⟨He.cls_ok (c.t.d.fact 94 (f := .cls "Book") rfl), ?_⟩
  simp only [List.mem_cons, List.not_mem_nil, or_false] at hf
  rcases hf with rfl | rfl | rfl | rfl
  · exact He.noat_ok (c.t.d.fact 96 (f := .noat "Book" "width") rfl)
  · exact He.noat_ok (c.t.d.fact 97 (f := .noat "Book" "registers") rfl)
  · exact He.noat_ok (c.t.d.fact 98 (f := .noat "Book" "words") rfl)
  · exact He.noat_ok (c.t.d.fact 99 (f := .noat "Book" "deeds") rfl)
theorem x_sub_BadCode_BadCode (c : He.SaysX fa fn ts [] ex w h K) : PySem.W.exmOne K (.ref (He.ga K "BadCode")) (.ref (He.ga K "BadCode")) = some true := oB_ok (He.ba (He.ba (He.ba (He.ba (He.ba (He.ba (He.ba c.more).2).2).2).2).2).2).1
theorem x_kit_BadCode_NoneshorterError (c : He.SaysX fa fn ts [] ex w h K) : PySem.W.kitOne K (.ref (He.ga K "BadCode")) (.ref (He.ga K "NoneshorterError")) = some true := oB_ok (He.ba (He.ba (He.ba (He.ba (He.ba (He.ba (He.ba (He.ba c.more).2).2).2).2).2).2).2).1
theorem x_kit_BadCode_TooMany (c : He.SaysX fa fn ts [] ex w h K) : PySem.W.kitOne K (.ref (He.ga K "BadCode")) (.ref (He.ga K "TooMany")) = some false := oB_ok (He.ba (He.ba (He.ba (He.ba (He.ba (He.ba (He.ba (He.ba (He.ba c.more).2).2).2).2).2).2).2).2).1
theorem x_kit_Text_Text (c : He.SaysX fa fn ts [] ex w h K) : PySem.W.kitOne K (.ref (He.ga K "Text")) (.ref (He.ga K "Text")) = some true := oB_ok (He.ba (He.ba (He.ba (He.ba (He.ba (He.ba (He.ba (He.ba (He.ba c.more).2).2).2).2).2).2).2).2).2
def nmE_BadCode : List Str := ["self", "at"]
theorem scE_BadCode : FnScope nmE_BadCode ["self", "at"] (defScope (met 5 0)) := ⟨rfl, rfl, rfl, by decide +kernel, rfl, by decide +kernel, by decide +kernel⟩
theorem e_BadCode (G : Gb K w mg) (G0 : h.Ns mainGlobals mg) (X : K.In h) (c : He.SaysX fa fn ts [] ex w h K) {fd : FuncData} (F : FunD K "__init__" "BadCode.__init__" (defArgs (met 5 0)) (defBody (met 5 0)) (defScope (met 5 0)) [] [] (He.ma K (He.ga K "BadCode") "__init__") fd) : CalE P w K mg base 1 "BadCode" (He.ga K "BadCode") "at" okNat := by
  have M := (He.glo_ok X G0 (c.t.d.fact 105 (f := .glo "NoneshorterError") rfl))
  have B := baseB_ok (He.ba (He.ba (He.ba (He.ba c.more).2).2).2).1
  exact exc_mk (k := 0) (a1 := "self") (a2 := "at") (msg := "invalid step at index ") (by decide +kernel) (excB_ok (He.ba (He.ba c.more).2).1) F scE_BadCode (fun _ _ _ _ _ _ us hl => match us, hl with | [_, _], _ => rfl) (He.glo_ok X G0 (c.t.d.fact 104 (f := .glo "BadCode") rfl))
    (fun cdv A outer s H E hr => pss_cons (ps_expr (pe_baseInit rfl M B (pa_cons (pv 0) (pa_cons (pe_op op_add_str pe_str (pe_callTy call_str_int rfl G.str (by decide +kernel) (pa_cons (pv 1) pa_nil))) pa_nil)))) (pss_one (ps_ost (pv 0) (pv 1))))
def nmE_TooMany : List Str := ["self", "limit"]
theorem scE_TooMany : FnScope nmE_TooMany ["self", "limit"] (defScope (met 6 0)) := ⟨rfl, rfl, rfl, by decide +kernel, rfl, by decide +kernel, by decide +kernel⟩
theorem e_TooMany (G : Gb K w mg) (G0 : h.Ns mainGlobals mg) (X : K.In h) (c : He.SaysX fa fn ts [] ex w h K) {fd : FuncData} (F : FunD K "__init__" "TooMany.__init__" (defArgs (met 6 0)) (defBody (met 6 0)) (defScope (met 6 0)) [] [] (He.ma K (He.ga K "TooMany") "__init__") fd) : CalE P w K mg base 1 "TooMany" (He.ga K "TooMany") "limit" okNat := by
  have M := (He.glo_ok X G0 (c.t.d.fact 105 (f := .glo "NoneshorterError") rfl))
  have B := baseB_ok (He.ba (He.ba (He.ba (He.ba c.more).2).2).2).1
  exact exc_mk (k := 0) (a1 := "self") (a2 := "limit") (msg := "more than ") (by decide +kernel) (excB_ok (He.ba (He.ba (He.ba c.more).2).2).1) F scE_TooMany (fun _ _ _ _ _ _ us hl => match us, hl with | [_, _], _ => rfl) (He.glo_ok X G0 (c.t.d.fact 107 (f := .glo "TooMany") rfl))
    (fun cdv A outer s H E hr => pss_cons (ps_expr (pe_baseInit rfl M B (pa_cons (pv 0) (pa_cons (pe_op op_add_str pe_str (pe_callTy call_str_int rfl G.str (by decide +kernel) (pa_cons (pv 1) pa_nil))) pa_nil)))) (pss_one (ps_ost (pv 0) (pv 1))))
theorem law_fn (X : K.In h) (G0 : h.Ns mainGlobals mg) (c : He.SaysX fa fn ts [] ex w h K) {f : Addr} {fd : FuncData} (F : FunD K "law" "law" (defArgs (top 87)) (defBody (top 87)) (defScope (top 87)) [] [] f fd) : FnOk P w K mg base CX0 17 f fd ["script"] (spD K w Rd.sp_law) := by
  have G := gb X G0 c
  have hcl : CfOk K (fun C f => Cls K C ∧ NoAttr K C f) := fun C f h => h
  obtain ⟨fdE_BadCode, FE_BadCode⟩ := c.t.d.def_ 61 (d := dm "BadCode" "__init__" "BadCode.__init__" 5 0) rfl
  have E_BadCode : CalE P w K mg base 1 "BadCode" (He.ga K "BadCode") "at" okNat := e_BadCode G G0 X c FE_BadCode
  obtain ⟨fdE_TooMany, FE_TooMany⟩ := c.t.d.def_ 62 (d := dm "TooMany" "__init__" "TooMany.__init__" 6 0) rfl
  have E_TooMany : CalE P w K mg base 1 "TooMany" (He.ga K "TooMany") "limit" okNat := e_TooMany G G0 X c FE_TooMany
  obtain ⟨fG_window_places, fdG_window_places, FG_window_places, hG_window_places⟩ := t_window_places X G0 c
  have W_window_places := d_window_places (P := P) (base := base) (k := 0) G FG_window_places hG_window_places
  have C_word_limit := d_word_limit (P := P) (base := base) (k := 0) G (t_word_limit X G0 c) (fun ds M Q E h => by repeat' first | (obtain ⟨rfl, _⟩ := h; rfl) | (obtain ⟨_, h⟩ := h)) Rd.r_word_limit
  have C_bad_words := d_bad_words (P := P) (base := base) (k := 1) G hcl (C_word_limit.mono (by omega)) (t_bad_words X G0 c) (fun ds M Q E h => by repeat' first | (obtain ⟨rfl, _⟩ := h; rfl) | (obtain ⟨_, h⟩ := h)) (Rk.r_bad_words (fun C f => Cls K C ∧ NoAttr K C f) (He.ga K "Book"))
  have C_is_name := d_is_name (P := P) (base := base) (k := 0) G (t_is_name X G0 c) (fun ds M Q E h => by repeat' first | (obtain ⟨rfl, _⟩ := h; rfl) | (obtain ⟨_, h⟩ := h)) Rd.r_is_name
  have C_is_shaped : ∀ n, Cal P w K mg base (1 + n) "is_shaped" ["formula", "width", "names", "depth"] (Rd.sp_is_shaped n) := fun n => by
    induction n with
    | zero => exact cal_no (t_is_shaped X G0 c) (fun _ _ _ _ _ _ us hl => match us, hl with | [_, _, _, _], _ => rfl) (fun ds M Q E h => by simp only [Rd.sp_is_shaped, Nat.not_lt_zero, false_and, and_false, exists_false] at h)
    | succ n ih => exact d_is_shaped (k := 1 + n) G (C_word_limit.mono (by omega)) ih (t_is_shaped X G0 c) (fun ds M Q E h => by repeat' first | (obtain ⟨rfl, _⟩ := h; rfl) | (obtain ⟨_, h⟩ := h)) (Rd.r_is_shaped n)
  have C_formula_size : ∀ n, Cal P w K mg base (0 + n) "formula_size" ["formula"] (Rd.sp_size n) := fun n => by
    induction n with
    | zero => exact cal_no (t_formula_size X G0 c) (fun _ _ _ _ _ _ us hl => match us, hl with | [_], _ => rfl) (fun ds M Q E h => by simp only [Rd.sp_size, Nat.not_lt_zero, false_and, and_false, exists_false] at h)
    | succ n ih => exact d_formula_size (k := 0 + n) G ih (t_formula_size X G0 c) (fun ds M Q E h => by repeat' first | (obtain ⟨rfl, _⟩ := h; rfl) | (obtain ⟨_, h⟩ := h)) (Rd.r_formula_size n)
  have C_is_formula := d_is_formula (P := P) (base := base) (k := 8) G ((C_is_shaped 7).mono (by omega)) ((C_formula_size 7).mono (by omega)) (t_is_formula X G0 c) (fun ds M Q E h => by repeat' first | (obtain ⟨rfl, _⟩ := h; rfl) | (obtain ⟨_, h⟩ := h)) Rd.r_is_formula
  have C_formula_names : ∀ n, Cal P w K mg base (0 + n) "formula_names" ["formula"] (Rd.sp_names n) := fun n => by
    induction n with
    | zero => exact cal_no (t_formula_names X G0 c) (fun _ _ _ _ _ _ us hl => match us, hl with | [_], _ => rfl) (fun ds M Q E h => by simp only [Rd.sp_names, Nat.not_lt_zero, false_and, and_false, exists_false] at h)
    | succ n ih => exact d_formula_names (k := 0 + n) G ih (t_formula_names X G0 c) (fun ds M Q E h => by repeat' first | (obtain ⟨rfl, _⟩ := h; rfl) | (obtain ⟨_, h⟩ := h)) (Rd.r_formula_names n)
  have C_bad_deed := d_bad_deed (P := P) (base := base) (k := 9) G hcl (C_is_name.mono (by omega)) (C_is_formula.mono (by omega)) ((C_formula_names 8).mono (by omega)) (t_bad_deed X G0 c) (fun ds M Q E h => by repeat' first | (obtain ⟨rfl, _⟩ := h; rfl) | (obtain ⟨_, h⟩ := h)) (Rk.r_bad_deed (fun C f => Cls K C ∧ NoAttr K C f) (He.ga K "Book"))
  have C_first_bad_line_books := d_first_bad_line_books (P := P) (base := base) (k := 10) G hcl (C_bad_words.mono (by omega)) (C_bad_deed.mono (by omega)) (t_first_bad_line_books X G0 c) (fun ds M Q E h => by repeat' first | (obtain ⟨rfl, _⟩ := h; rfl) | (obtain ⟨_, h⟩ := h)) (Rk.r_first_bad_line_v2 (fun C f => Cls K C ∧ NoAttr K C f) (He.ga K "Book"))
  obtain ⟨fd_Book__init__, F_Book__init__⟩ := c.t.d.def_ 56 (d := dm "Book" "__init__" "Book.__init__" 58 0) rfl
  have C_Book__init__ := d_Book__init__ (P := P) (base := base) (k := 11) G hcl (C_first_bad_line_books.mono (by omega)) F_Book__init__ (He.mkr_ok (c.t.d.fact 95 (f := .mkr "Book") rfl)) (He.glo_ok X G0 (c.t.d.fact 93 (f := .glo "Book") rfl)) (fun ds M Q E h => by repeat' first | (obtain ⟨rfl, _⟩ := h; rfl) | (obtain ⟨_, h⟩ := h)) (Rv.r_Book__init___v2 (fun C f => Cls K C ∧ NoAttr K C f) (He.ga K "Book"))
  have C__law_mix := d__law_mix (P := P) (base := base) (k := 0) G (t__law_mix X G0 c) (fun ds M Q E h => by repeat' first | (obtain ⟨rfl, _⟩ := h; rfl) | (obtain ⟨_, h⟩ := h)) Rd.r__law_mix
  have C__law_stream := d__law_stream (P := P) (base := base) (k := 1) G (C__law_mix.mono (by omega)) (t__law_stream X G0 c) (fun ds M Q E h => by repeat' first | (obtain ⟨rfl, _⟩ := h; rfl) | (obtain ⟨_, h⟩ := h)) Rd.r__law_stream
  have C__law_take := d__law_take (P := P) (base := base) (k := 0) G (t__law_take X G0 c) (fun ds M Q E h => by repeat' first | (obtain ⟨rfl, _⟩ := h; rfl) | (obtain ⟨_, h⟩ := h)) Rd.r__law_take
  have C__law_formula := d__law_formula (P := P) (base := base) (k := 1) G (C__law_take.mono (by omega)) (t__law_formula X G0 c) (fun ds M Q E h => by repeat' first | (obtain ⟨rfl, _⟩ := h; rfl) | (obtain ⟨_, h⟩ := h)) Rv.r__law_formula_v3
  have C__law_names : ∀ n, Cal P w K mg base (0 + n) "_law_names" ["formula"] (Rk.sp_lnames2 n) := fun n => by
    induction n with
    | zero => exact cal_no (t__law_names X G0 c) (fun _ _ _ _ _ _ us hl => match us, hl with | [_], _ => rfl) (fun ds M Q E h => by simp only [Rk.sp_lnames2, Nat.not_lt_zero, false_and, and_false, exists_false] at h)
    | succ n ih => exact d__law_names (k := 0 + n) G ih (t__law_names X G0 c) (fun ds M Q E h => by repeat' first | (obtain ⟨rfl, _⟩ := h; rfl) | (obtain ⟨_, h⟩ := h)) (Rk.r__law_names_v2 n)
  have C__law_book := d__law_book (P := P) (base := base) (k := 8) G (C__law_take.mono (by omega)) (C__law_formula.mono (by omega)) ((C__law_names 8).mono (by omega)) (t__law_book X G0 c) (fun ds M Q E h => by repeat' first | (obtain ⟨rfl, _⟩ := h; rfl) | (obtain ⟨_, h⟩ := h)) Rv.r__law_book_v2
  have C__law_rows := d__law_rows (P := P) (base := base) (k := 0) G (t__law_rows X G0 c) (fun ds M Q E h => by repeat' first | (obtain ⟨rfl, _⟩ := h; rfl) | (obtain ⟨_, h⟩ := h)) Rv.r__law_rows_v3
  have C__law_steps := d__law_steps (P := P) (base := base) (k := 8) G ((C__law_names 8).mono (by omega)) (C__law_rows.mono (by omega)) (t__law_steps X G0 c) (fun ds M Q E h => by repeat' first | (obtain ⟨rfl, _⟩ := h; rfl) | (obtain ⟨_, h⟩ := h)) Rv.r__law_steps_v2
  have C__law_is_whole := d__law_is_whole (P := P) (base := base) (k := 0) G (t__law_is_whole X G0 c) (fun ds M Q E h => by repeat' first | (obtain ⟨rfl, _⟩ := h; rfl) | (obtain ⟨_, h⟩ := h)) Rv.r__law_is_whole_v2
  have H__law_is_whole := dh__law_is_whole (P := P) (base := base) (k := 0) G (t__law_is_whole X G0 c) (fun ds M Q E h => by repeat' first | (obtain ⟨rfl, _⟩ := h; rfl) | (obtain ⟨_, h⟩ := h)) Rv.r__law_is_whole_v2
  have C__law_same := d__law_same (P := P) (base := base) (k := 1) G (C__law_is_whole.mono (by omega)) (t__law_same X G0 c) (fun ds M Q E h => by repeat' first | (obtain ⟨rfl, _⟩ := h; rfl) | (obtain ⟨_, h⟩ := h)) Rv.r__law_same
  have C__law_windows := d__law_windows (P := P) (base := base) (k := 0) G (t__law_windows X G0 c) (fun ds M Q E h => by repeat' first | (obtain ⟨rfl, _⟩ := h; rfl) | (obtain ⟨_, h⟩ := h)) Rv.r__law_windows
  have C__law_places_asked := d__law_places_asked (P := P) (base := base) (k := 1) G (W_window_places.mono (by omega)) (C__law_take.mono (by omega)) (C__law_same.mono (by omega)) (C__law_windows.mono (by omega)) (t__law_places_asked X G0 c) (fun ds M Q E h => by repeat' first | (obtain ⟨rfl, _⟩ := h; rfl) | (obtain ⟨_, h⟩ := h)) Rv.r__law_places_asked
  have C__law_spoilt := d__law_spoilt (P := P) (base := base) (k := 1) G (C__law_take.mono (by omega)) (t__law_spoilt X G0 c) (fun ds M Q E h => by repeat' first | (obtain ⟨rfl, _⟩ := h; rfl) | (obtain ⟨_, h⟩ := h)) Rv.r__law_spoilt_v3
  have C_source_count := d_source_count (P := P) (base := base) (k := 8) G ((C_formula_names 8).mono (by omega)) (t_source_count X G0 c) (fun ds M Q E h => by repeat' first | (obtain ⟨rfl, _⟩ := h; rfl) | (obtain ⟨_, h⟩ := h)) Rk.r_source_count
  have C_takes_word := d_takes_word (P := P) (base := base) (k := 8) G ((C_formula_names 8).mono (by omega)) (t_takes_word X G0 c) (fun ds M Q E h => by repeat' first | (obtain ⟨rfl, _⟩ := h; rfl) | (obtain ⟨_, h⟩ := h)) Rk.r_takes_word
  obtain ⟨fd_Bookis_step, F_Bookis_step⟩ := c.t.d.def_ 58 (d := dm "Book" "is_step" "Book.is_step" 58 2) rfl
  have C_Bookis_step := d_Bookis_step (P := P) (base := base) (k := 9) G hcl (C_source_count.mono (by omega)) (C_takes_word.mono (by omega)) F_Bookis_step (He.cls_ok (c.t.d.fact 94 (f := .cls "Book") rfl)) (He.meth_ok (c.t.d.fact 101 (f := .meth "Book" "is_step") rfl)) (fun ds M Q E h => by repeat' first | (obtain ⟨rfl, _⟩ := h; rfl) | (obtain ⟨_, h⟩ := h)) (Rk.r_Bookis_step (fun C f => Cls K C ∧ NoAttr K C f) (He.ga K "Book"))
  have C_check_codeX := d_check_codeX (P := P) (base := base) (k := 9) G (He.glo_ok X G0 (c.t.d.fact 104 (f := .glo "BadCode") rfl)) (E_BadCode.mono (by omega)) (C_Bookis_step.mono (by omega)) (t_check_code X G0 c) (fun ds M Q E h => by repeat' first | (obtain ⟨rfl, _⟩ := h; rfl) | (obtain ⟨_, h⟩ := h)) (Rk.r_check_code_x (fun C f => Cls K C ∧ NoAttr K C f) (He.ga K "Book") (He.ga K "BadCode"))
  have C_live_ahead := d_live_ahead (P := P) (base := base) (k := 0) G (t_live_ahead X G0 c) (fun ds M Q E h => by repeat' first | (obtain ⟨rfl, _⟩ := h; rfl) | (obtain ⟨_, h⟩ := h)) Rv.r_live_ahead
  have C_live_setsX := d_live_setsX (P := P) (base := base) (k := 11) G (C_check_codeX.mono (by omega)) (C_live_ahead.mono (by omega)) (t_live_sets X G0 c) (fun ds M Q E h => by repeat' first | (obtain ⟨rfl, _⟩ := h; rfl) | (obtain ⟨_, h⟩ := h)) (Rv.r_live_sets_x (fun C f => Cls K C ∧ NoAttr K C f) (He.ga K "Book") (He.ga K "BadCode"))
  have C_is_value_name := d_is_value_name (P := P) (base := base) (k := 1) G (C_is_name.mono (by omega)) (t_is_value_name X G0 c) (fun ds M Q E h => by repeat' first | (obtain ⟨rfl, _⟩ := h; rfl) | (obtain ⟨_, h⟩ := h)) Rd.r_is_value_name
  have C_bad_input := d_bad_input (P := P) (base := base) (k := 2) G hcl (C_is_value_name.mono (by omega)) (t_bad_input X G0 c) (fun ds M Q E h => by repeat' first | (obtain ⟨rfl, _⟩ := h; rfl) | (obtain ⟨_, h⟩ := h)) (Rd.r_bad_input (fun C f => Cls K C ∧ NoAttr K C f) (He.ga K "Text"))
  have C_bad_let := d_bad_let (P := P) (base := base) (k := 9) G hcl (C_is_value_name.mono (by omega)) (C_is_formula.mono (by omega)) (t_bad_let X G0 c) (fun ds M Q E h => by repeat' first | (obtain ⟨rfl, _⟩ := h; rfl) | (obtain ⟨_, h⟩ := h)) (Rd.r_bad_let (fun C f => Cls K C ∧ NoAttr K C f) (He.ga K "Text"))
  have C_bad_out := d_bad_out (P := P) (base := base) (k := 9) G hcl (C_is_formula.mono (by omega)) (t_bad_out X G0 c) (fun ds M Q E h => by repeat' first | (obtain ⟨rfl, _⟩ := h; rfl) | (obtain ⟨_, h⟩ := h)) (Rd.r_bad_out (fun C f => Cls K C ∧ NoAttr K C f) (He.ga K "Text"))
  have C_first_bad_line_texts := d_first_bad_line_texts (P := P) (base := base) (k := 10) G hcl (C_bad_input.mono (by omega)) (C_is_formula.mono (by omega)) (C_bad_let.mono (by omega)) (C_bad_out.mono (by omega)) (t_first_bad_line_texts X G0 c) (fun ds M Q E h => by repeat' first | (obtain ⟨rfl, _⟩ := h; rfl) | (obtain ⟨_, h⟩ := h)) (Rd.r_first_bad_line (fun C f => Cls K C ∧ NoAttr K C f) (He.ga K "Text"))
  obtain ⟨fd_Text__init__, F_Text__init__⟩ := c.t.d.def_ 55 (d := dm "Text" "__init__" "Text.__init__" 34 0) rfl
  have C_Text__init__ := d_Text__init__ (P := P) (base := base) (k := 11) G hcl (C_first_bad_line_texts.mono (by omega)) F_Text__init__ (He.mkr_ok (c.t.d.fact 87 (f := .mkr "Text") rfl)) (He.glo_ok X G0 (c.t.d.fact 106 (f := .glo "Text") rfl)) (fun ds M Q E h => by repeat' first | (obtain ⟨rfl, _⟩ := h; rfl) | (obtain ⟨_, h⟩ := h)) (Rv.r_Text__init___v2 (fun C f => Cls K C ∧ NoAttr K C f) (He.ga K "Text"))
  obtain ⟨fd_Bookdeed, F_Bookdeed⟩ := c.t.d.def_ 57 (d := dm "Book" "deed" "Book.deed" 58 1) rfl
  have C_Bookdeed := d_Bookdeed (P := P) (base := base) (k := 0) G hcl F_Bookdeed (He.cls_ok (c.t.d.fact 94 (f := .cls "Book") rfl)) (He.meth_ok (c.t.d.fact 100 (f := .meth "Book" "deed") rfl)) (fun ds M Q E h => by repeat' first | (obtain ⟨rfl, _⟩ := h; rfl) | (obtain ⟨_, h⟩ := h)) (Rk.r_Bookdeed (fun C f => Cls K C ∧ NoAttr K C f) (He.ga K "Book"))
  have C_put_in : ∀ n, Cal P w K mg base (0 + n) "put_in" ["formula", "env"] (Rd.sp_put_in n) := fun n => by
    induction n with
    | zero => exact cal_no (t_put_in X G0 c) (fun _ _ _ _ _ _ us hl => match us, hl with | [_, _], _ => rfl) (fun ds M Q E h => by simp only [Rd.sp_put_in, Nat.not_lt_zero, false_and, and_false, exists_false] at h)
    | succ n ih => exact d_put_in (k := 0 + n) G ih (t_put_in X G0 c) (fun ds M Q E h => by repeat' first | (obtain ⟨rfl, _⟩ := h; rfl) | (obtain ⟨_, h⟩ := h)) (Rd.r_put_in n)
  have C_code_textX := d_code_textX (P := P) (base := base) (k := 12) G hcl (He.glo_ok X G0 (c.t.d.fact 107 (f := .glo "TooMany") rfl)) (E_TooMany.mono (by omega)) (C_Text__init__.mono (by omega)) (C_Bookdeed.mono (by omega)) (C_check_codeX.mono (by omega)) ((C_put_in 8).mono (by omega)) (t_code_text X G0 c) (fun ds M Q E h => by repeat' first | (obtain ⟨rfl, _⟩ := h; rfl) | (obtain ⟨_, h⟩ := h)) (Rv.r_code_text_x (fun C f => Cls K C ∧ NoAttr K C f) (He.ga K "Text") (He.ga K "Book") (He.ga K "TooMany") (He.ga K "BadCode") (cl_Text c))
  have C_window_textX := d_window_textX (P := P) (base := base) (k := 14) G (C_live_setsX.mono (by omega)) (C_code_textX.mono (by omega)) (t_window_text X G0 c) (fun ds M Q E h => by repeat' first | (obtain ⟨rfl, _⟩ := h; rfl) | (obtain ⟨_, h⟩ := h)) (Rv.r_window_text_x (fun C f => Cls K C ∧ NoAttr K C f) (He.ga K "Text") (He.ga K "Book") (He.ga K "TooMany") (He.ga K "BadCode"))
  have C__law_bad := d__law_bad (P := P) (base := base) (k := 15) G (He.glo_ok X G0 (c.t.d.fact 104 (f := .glo "BadCode") rfl)) (He.glo_ok X G0 (c.t.d.fact 105 (f := .glo "NoneshorterError") rfl)) (He.glo_ok X G0 (c.t.d.fact 107 (f := .glo "TooMany") rfl)) (xcB_ok (He.ba (He.ba (He.ba (He.ba (He.ba c.more).2).2).2).2).1).xf (xcB_ok (He.ba (He.ba (He.ba (He.ba (He.ba c.more).2).2).2).2).1).ec (xcB_ok (He.ba (He.ba (He.ba (He.ba (He.ba c.more).2).2).2).2).1).no (C_live_setsX.mono (by omega)) (C_window_textX.mono (by omega)) (H__law_is_whole.mono (by omega)) (t__law_bad X G0 c) (fun ds M Q E h => by repeat' first | (obtain ⟨rfl, _⟩ := h; rfl) | (obtain ⟨_, h⟩ := h)) (Rv.r__law_bad_v2 (fun C f => Cls K C ∧ NoAttr K C f) (He.ga K "Text") (He.ga K "Book") (He.ga K "BadCode") (He.ga K "NoneshorterError") (He.ga K "TooMany") _ _ _ (x_sub_BadCode_BadCode c) (x_kit_BadCode_NoneshorterError c) (x_kit_BadCode_TooMany c))
  have C_check_code := d_check_code (P := P) (base := base) (k := 10) G (C_Bookis_step.mono (by omega)) (t_check_code X G0 c) (fun ds M Q E h => by repeat' first | (obtain ⟨rfl, _⟩ := h; rfl) | (obtain ⟨_, h⟩ := h)) (Rk.r_check_code (fun C f => Cls K C ∧ NoAttr K C f) (He.ga K "Book"))
  have C_live_sets := d_live_sets (P := P) (base := base) (k := 11) G (C_check_code.mono (by omega)) (C_live_ahead.mono (by omega)) (t_live_sets X G0 c) (fun ds M Q E h => by repeat' first | (obtain ⟨rfl, _⟩ := h; rfl) | (obtain ⟨_, h⟩ := h)) (Rv.r_live_sets (fun C f => Cls K C ∧ NoAttr K C f) (He.ga K "Book"))
  have C__law_live := d__law_live (P := P) (base := base) (k := 0) G (t__law_live X G0 c) (fun ds M Q E h => by repeat' first | (obtain ⟨rfl, _⟩ := h; rfl) | (obtain ⟨_, h⟩ := h)) Rv.r__law_live
  have C_code_text := d_code_text (P := P) (base := base) (k := 12) G hcl (C_Text__init__.mono (by omega)) (C_Bookdeed.mono (by omega)) (C_check_code.mono (by omega)) ((C_put_in 8).mono (by omega)) (t_code_text X G0 c) (fun ds M Q E h => by repeat' first | (obtain ⟨rfl, _⟩ := h; rfl) | (obtain ⟨_, h⟩ := h)) (Rv.r_code_text (fun C f => Cls K C ∧ NoAttr K C f) (He.ga K "Text") (He.ga K "Book") (cl_Text c))
  have C_window_text := d_window_text (P := P) (base := base) (k := 14) G (C_live_sets.mono (by omega)) (C_code_text.mono (by omega)) (t_window_text X G0 c) (fun ds M Q E h => by repeat' first | (obtain ⟨rfl, _⟩ := h; rfl) | (obtain ⟨_, h⟩ := h)) (Rv.r_window_text (fun C f => Cls K C ∧ NoAttr K C f) (He.ga K "Text") (He.ga K "Book"))
  have C__law_two := d__law_two (P := P) (base := base) (k := 0) G (t__law_two X G0 c) (fun ds M Q E h => by repeat' first | (obtain ⟨rfl, _⟩ := h; rfl) | (obtain ⟨_, h⟩ := h)) Rd.r__law_two
  have C__law_value : ∀ n, Cal P w K mg base (1 + n) "_law_value" ["formula", "width", "env"] (Rd.sp_lvalue n) := fun n => by
    induction n with
    | zero => exact cal_no (t__law_value X G0 c) (fun _ _ _ _ _ _ us hl => match us, hl with | [_, _, _], _ => rfl) (fun ds M Q E h => by simp only [Rd.sp_lvalue, Nat.not_lt_zero, false_and, and_false, exists_false] at h)
    | succ n ih => exact d__law_value (k := 1 + n) G ih (C__law_two.mono (by omega)) (t__law_value X G0 c) (fun ds M Q E h => by repeat' first | (obtain ⟨rfl, _⟩ := h; rfl) | (obtain ⟨_, h⟩ := h)) (Rd.r__law_value n)
  have C__law_deed := d__law_deed (P := P) (base := base) (k := 0) G (t__law_deed X G0 c) (fun ds M Q E h => by repeat' first | (obtain ⟨rfl, _⟩ := h; rfl) | (obtain ⟨_, h⟩ := h)) Rk.r__law_deed
  have C__law_after := d__law_after (P := P) (base := base) (k := 9) G ((C__law_value 8).mono (by omega)) (C__law_deed.mono (by omega)) (t__law_after X G0 c) (fun ds M Q E h => by repeat' first | (obtain ⟨rfl, _⟩ := h; rfl) | (obtain ⟨_, h⟩ := h)) Rk.r__law_after
  have C_row_env := d_row_env (P := P) (base := base) (k := 0) G hcl (t_row_env X G0 c) (fun ds M Q E h => by repeat' first | (obtain ⟨rfl, _⟩ := h; rfl) | (obtain ⟨_, h⟩ := h)) (Rd.r_row_env (fun C f => Cls K C ∧ NoAttr K C f) (He.ga K "Text"))
  have C_operate_one := d_operate_one (P := P) (base := base) (k := 1) G (C_word_limit.mono (by omega)) (t_operate_one X G0 c) (fun ds M Q E h => by repeat' first | (obtain ⟨rfl, _⟩ := h; rfl) | (obtain ⟨_, h⟩ := h)) Rd.r_operate_one
  have C_operate_bits := d_operate_bits (P := P) (base := base) (k := 0) G (t_operate_bits X G0 c) (fun ds M Q E h => by repeat' first | (obtain ⟨rfl, _⟩ := h; rfl) | (obtain ⟨_, h⟩ := h)) Rd.r_operate_bits
  have C_signed_value := d_signed_value (P := P) (base := base) (k := 1) G (C_word_limit.mono (by omega)) (t_signed_value X G0 c) (fun ds M Q E h => by repeat' first | (obtain ⟨rfl, _⟩ := h; rfl) | (obtain ⟨_, h⟩ := h)) Rd.r_signed_value
  have C_operate_order := d_operate_order (P := P) (base := base) (k := 2) G (C_signed_value.mono (by omega)) (t_operate_order X G0 c) (fun ds M Q E h => by repeat' first | (obtain ⟨rfl, _⟩ := h; rfl) | (obtain ⟨_, h⟩ := h)) Rd.r_operate_order
  have C_operate_sum := d_operate_sum (P := P) (base := base) (k := 1) G (C_word_limit.mono (by omega)) (t_operate_sum X G0 c) (fun ds M Q E h => by repeat' first | (obtain ⟨rfl, _⟩ := h; rfl) | (obtain ⟨_, h⟩ := h)) Rd.r_operate_sum
  have C_operate := d_operate (P := P) (base := base) (k := 3) G (C_operate_one.mono (by omega)) (C_operate_bits.mono (by omega)) (C_operate_order.mono (by omega)) (C_operate_sum.mono (by omega)) (t_operate X G0 c) (fun ds M Q E h => by repeat' first | (obtain ⟨rfl, _⟩ := h; rfl) | (obtain ⟨_, h⟩ := h)) Rd.r_operate
  have C_formula_value : ∀ n, Cal P w K mg base (4 + n) "formula_value" ["formula", "width", "env"] (Rd.sp_value n) := fun n => by
    induction n with
    | zero => exact cal_no (t_formula_value X G0 c) (fun _ _ _ _ _ _ us hl => match us, hl with | [_, _, _], _ => rfl) (fun ds M Q E h => by simp only [Rd.sp_value, Nat.not_lt_zero, false_and, and_false, exists_false] at h)
    | succ n ih => exact d_formula_value (k := 4 + n) G ih (C_operate.mono (by omega)) (t_formula_value X G0 c) (fun ds M Q E h => by repeat' first | (obtain ⟨rfl, _⟩ := h; rfl) | (obtain ⟨_, h⟩ := h)) (Rd.r_formula_value n)
  have C_text_outputs := d_text_outputs (P := P) (base := base) (k := 12) G hcl (C_row_env.mono (by omega)) ((C_formula_value 8).mono (by omega)) (t_text_outputs X G0 c) (fun ds M Q E h => by repeat' first | (obtain ⟨rfl, _⟩ := h; rfl) | (obtain ⟨_, h⟩ := h)) (Rd.r_text_outputs (fun C f => Cls K C ∧ NoAttr K C f) (He.ga K "Text"))
  have C__law_text_asked := d__law_text_asked (P := P) (base := base) (k := 15) G hcl (He.glo_ok X G0 (c.t.d.fact 106 (f := .glo "Text") rfl)) (isCB_ok (He.cls_ok (c.t.d.fact 86 (f := .cls "Text") rfl)) (He.ba (He.ba (He.ba (He.ba (He.ba (He.ba c.more).2).2).2).2).2).1) (C__law_live.mono (by omega)) (C_window_text.mono (by omega)) (C__law_after.mono (by omega)) (C_text_outputs.mono (by omega)) (t__law_text_asked X G0 c) (fun ds M Q E h => by repeat' first | (obtain ⟨rfl, _⟩ := h; rfl) | (obtain ⟨_, h⟩ := h)) (Rv.r__law_text_asked (fun C f => Cls K C ∧ NoAttr K C f) (He.ga K "Text") (He.ga K "Book") _ (x_kit_Text_Text c))
  exact d_law (k := 15) G (C_Book__init__.mono (by omega)) (C__law_stream.mono (by omega)) (C__law_book.mono (by omega)) (C__law_steps.mono (by omega)) (C__law_take.mono (by omega)) (C__law_places_asked.mono (by omega)) (C__law_spoilt.mono (by omega)) (C__law_bad.mono (by omega)) (C_live_sets.mono (by omega)) (C__law_same.mono (by omega)) (C__law_live.mono (by omega)) (C__law_text_asked.mono (by omega)) F (fun ds M Q E h => by repeat' first | (obtain ⟨rfl, _⟩ := h; rfl) | (obtain ⟨_, h⟩ := h)) (Rv.r_law_v5 (fun C f => Cls K C ∧ NoAttr K C f) (He.ga K "Book") (cl_Book c))
theorem facts {f : Addr} (X : K.In h) (G : h.Ns mainGlobals mg) (hfa : mg ("law" : Str) = some (.ref f)) (c : He.SaysX fa fn ts [] ex w h K) :
    ∃ fd : FuncData, (∀ (s : Shared) (v : Value), BindsTo s fd ⟨[v], []⟩ [("script", v)]) ∧ ∀ base : Heap, FnOk P w K mg base CX0 17 f fd ["script"] (spD K w Rd.sp_law) := by
  obtain ⟨fd, F⟩ := c.t.d.def_ 54 (d := dd "law" 87) rfl
  have e := hfa.symm.trans (He.glo_ok X G (c.t.d.fact 54 (f := .glo "law") rfl))
  cases e
  have b := FunD.bindsA (ps := ["script"]) F fun _ _ _ _ _ _ us hl => match us, hl with | [_], _ => rfl
  exact ⟨fd, fun s v => b s [v] rfl, fun base => law_fn X G c F⟩
end
end K78e
open PySem PySem.W PySem.Calls PyProof.Rows
theorem PySem.Challenge.cw_noneshorter_k78_live_sets_holds : PySem.Challenge.rw_noneshorter_k78_live_sets.Holds := by
  w_on; o_law
  refine HandSHeadRun.head_any (r := OpenLaw.row PySem.Challenge.rw_noneshorter_k78_live_sets) (q := view (OpenLaw.row PySem.Challenge.rw_noneshorter_k78_live_sets).prog [87]) (H := K78e.hk) (ob := K78e.ob) (M := 12000) (loose := K78e.names) (d := HandSHeadRun.topDef (OpenLaw.row PySem.Challenge.rw_noneshorter_k78_live_sets).prog 87) (kwd := []) K78e.ob_eq
    (by kernel_rfl) (fun s => by kernel_rfl) K78e.run (by kernel_rfl) (by kernel_rfl) (by kernel_rfl) (by rfl) (by first | assumption | decide +kernel) (by decide +kernel) ⟨rfl, rfl, rfl, rfl, rfl, by decide +kernel⟩ ?hw ?hc
  case hw => w_witness2
  case hc =>
    refine L2.walk_ofE (l := PySem.Challenge.rw_noneshorter_k78_live_sets) (n := 63) (k := 17) (x := "script") (CX := L2.CX0) rfl (by decide) (by kernel_rfl) ⟨rfl, by decide, by decide⟩ ?F (fun _ _ _ _ z => z)
    intro w mg fa h Y G hmg0
    obtain ⟨K, KX, c⟩ := Y
    have hmg : mg ("law" : PySem.Str) = some (.ref fa) := by
      have e : (HandSHeadRun.topDef (OpenLaw.row PySem.Challenge.rw_noneshorter_k78_live_sets).prog 87).name = ("law" : PySem.Str) := by kernel_rfl
      rw [← e]
      exact hmg0
    obtain ⟨fd, hb, hF⟩ := K78e.facts (P := (PySem.Challenge.rw_noneshorter_k78_live_sets).prog) (w := w) KX G hmg c
    exact ⟨K, fd, DH.spD K w Rd.sp_law, KX, hb, fun H a ns hl ho hS => DH.start_sp ho hS fun Q E hQ => ⟨ns, rfl, hl, hQ⟩, fun base _ _ => hF base⟩

