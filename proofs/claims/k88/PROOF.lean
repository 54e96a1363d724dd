import PyProof.Rows.All
import Wide.All
import OpenK.AllK
import Wide.FinOn
import HandS.ForMost
import HandS.IsInst
import HandS.TupAny
import HandS.Zip
import HandS.Rev
import HandS.NoneIn
import HandS.Flow
import HandS.Defaults
import HandS.More
import HandS.WordsExc
import HandS.TupMul
import HandS.DictComp
import HandS.DeepEq
import KE.KDictCopyH
import KE.GoesZip
import KE.GoesMore
import HandS.Head0
import HandS.Head1
import HandS.Head2
import HandS.HeadEnd
import HandS.HeadHook1
import HandS.HeadHook2
import HandS.HeadHook3
import HandS.HeadHook4
import HandS.ExcInit
import HandS.ExcOwn
import HandS.ExcField
import HandS.ExcIs
import HandS.Style
import PySem.Challenge.RW_noneshorter_k88_book_runs
set_option Elab.async false
set_option linter.all false
set_option autoImplicit false
set_option maxRecDepth 100000
set_option maxHeartbeats 2000000
/-! Deep readings over the hand layer: values whose tuples are data (D), a heap of lists, dicts and instances that hold such values (Mm). -/
namespace DH
open PySem PySem.Spec PyProof.Rows L2

inductive D where
  | non | bl (b : Bool) | int (i : Int) | str (x : Str) | ref (a : Addr) | ty (n : String) | tup (xs : List D) | kd (kvs : List (Str × D)) | fl (xs : List D)

/-- the scalars -/
inductive Flt : D → V → Prop
  | non : Flt .non .non
  | bl (b : Bool) : Flt (.bl b) (.bl b)
  | int (i : Int) : Flt (.int i) (.int i)
  | str (x : Str) : Flt (.str x) (.str x)
/-- a written dict -/
structure KdAt (K : PySem.W.Frag) (w : World) (a : Addr) (kvs : List (Str × D)) : Prop where
  kd : ∃ es n, KDict K w a es n ∧ es.size = kvs.length
  small : kvs.length ≤ 1000
  hit : ∀ z d, kvs.lookup z = some d → ∃ u v, PySem.W.nsIn K a z = some (some u) ∧ RelV v u ∧ Flt d v
  miss : ∀ z, kvs.lookup z = none → PySem.W.nsIn K a z = some none

/-- a list that nobody changes: locked, or written by the top -/
def FzL (K : PySem.W.Frag) (H : Hp) (a : Addr) (xs : List V) : Prop := (∃ o, H a = some (.frz o (.lst xs))) ∨
  ∃ (o : Obj) (its : Array Value) (n : Nat), K.lookup a = some o ∧ o.cls = .type "list" ∧ o.dict = none ∧ o.data = .seq its n ∧ its.size ≤ sizeLine ∧ Vals xs its.toList
theorem FzL.sq {K : PySem.W.Frag} {H : Hp} {a : Addr} {xs : List V} (h : FzL K H a xs) : SqL K H a xs := by
  rcases h with ⟨o, h⟩ | h
  · exact .inl (.inr ⟨o, h⟩)
  · exact .inr h
mutual
inductive Rep (K : PySem.W.Frag) (w : World) (H : Hp) : D → V → Prop
  | non : Rep K w H .non .non
  | bl (b : Bool) : Rep K w H (.bl b) (.bl b)
  | int (i : Int) : Rep K w H (.int i) (.int i)
  | str (x : Str) : Rep K w H (.str x) (.str x)
  | ref (a : Addr) : Rep K w H (.ref a) (.ref a)
  | ty (n : String) : Rep K w H (.ty n) (.ty n)
  | tup {a : Addr} {ds : List D} {xs : List V} : SqT K H a xs → RepL K w H ds xs → Rep K w H (.tup ds) (.ref a)
  | kd {a : Addr} {kvs : List (Str × D)} : KdAt K w a kvs → Rep K w H (.kd kvs) (.ref a)
  | fl {a : Addr} {ds : List D} {xs : List V} : FzL K H a xs → RepL K w H ds xs → Rep K w H (.fl ds) (.ref a)
inductive RepL (K : PySem.W.Frag) (w : World) (H : Hp) : List D → List V → Prop
  | nil : RepL K w H [] []
  | cons {d : D} {ds : List D} {x : V} {xs : List V} : Rep K w H d x → RepL K w H ds xs → RepL K w H (d :: ds) (x :: xs)
end

/-- tuples and locked things stand -/
structure Tx (K : PySem.W.Frag) (H H' : Hp) : Prop where
  t : ∀ a xs, SqT K H a xs → SqT K H' a xs
  f : ∀ a o u, H a = some (.frz o u) → H' a = some (.frz o u)
theorem Tx.refl {K : PySem.W.Frag} (H : Hp) : Tx K H H := ⟨fun _ _ h => h, fun _ _ _ h => h⟩
theorem Tx.trans {K : PySem.W.Frag} {H H1 H2 : Hp} (a : Tx K H H1) (b : Tx K H1 H2) : Tx K H H2 := ⟨fun c x h => b.t c x (a.t c x h), fun c o u h => b.f c o u (a.f c o u h)⟩
theorem Tx.new {K : PySem.W.Frag} {H : Hp} {p : Addr} {o : HO} (h : H p = none) : Tx K H (upd H p o) := ⟨fun a xs e => by
  rcases e with (e | ⟨u, e⟩) | e
  · exact .inl (.inl (by rw [upd_ne (ne_of_none e h)]; exact e))
  · exact .inl (.inr ⟨u, by rw [upd_ne (ne_of_none e h)]; exact e⟩)
  · exact .inr e, fun a u v e => by rw [upd_ne (ne_of_none e h)]; exact e⟩
/-- no tuple, no locked thing stands there -/
def notT : HO → Prop
  | .tup _ => False
  | .frz _ _ => False
  | _ => True
theorem Tx.mut {K : PySem.W.Frag} {H : Hp} {p : Addr} {o u : HO} (h : H p = some u) (n : notT u) : Tx K H (upd H p o) := ⟨fun a xs e => by
  rcases e with (e | ⟨v, e⟩) | e
  · refine .inl (.inl ?_)
    rw [upd_ne (ne_of e h (fun z => by subst z; exact n))]
    exact e
  · refine .inl (.inr ⟨v, ?_⟩)
    rw [upd_ne (ne_of e h (fun z => by subst z; exact n))]
    exact e
  · exact .inr e, fun a v x e => by rw [upd_ne (ne_of e h (fun z => by subst z; exact n))]; exact e⟩
theorem FzL.mono {K : PySem.W.Frag} {H H' : Hp} {a : Addr} {xs : List V} (h : FzL K H a xs) (t : Tx K H H') : FzL K H' a xs := by
  rcases h with ⟨o, h⟩ | h
  · exact .inl ⟨o, t.f _ _ _ h⟩
  · exact .inr h

section
variable {K : PySem.W.Frag} {w : World} {H H' : Hp}
mutual
theorem Rep.mono (t : Tx K H H') : ∀ {d : D} {v : V}, Rep K w H d v → Rep K w H' d v
  | _, _, .non => .non
  | _, _, .bl b => .bl b
  | _, _, .int i => .int i
  | _, _, .str x => .str x
  | _, _, .ref a => .ref a
  | _, _, .ty n => .ty n
  | _, _, .tup h l => .tup (t.t _ _ h) (RepL.mono t l)
  | _, _, .fl h l => .fl (h.mono t) (RepL.mono t l)
  | _, _, .kd h => .kd h
theorem RepL.mono (t : Tx K H H') : ∀ {ds : List D} {xs : List V}, RepL K w H ds xs → RepL K w H' ds xs
  | _, _, .nil => .nil
  | _, _, .cons h l => .cons (Rep.mono t h) (RepL.mono t l)
end
theorem RepL.length : ∀ {ds : List D} {xs : List V}, RepL K w H ds xs → xs.length = ds.length
  | _, _, .nil => rfl
  | _, _, .cons _ l => congrArg (· + 1) (RepL.length l)
theorem RepL.get : ∀ {ds : List D} {xs : List V} {i : Nat} {d : D}, RepL K w H ds xs → ds[i]? = some d → ∃ x, xs[i]? = some x ∧ Rep K w H d x
  | _, _, _, _, .nil, e => by simp at e
  | _, _, 0, _, .cons h _, e => by simp at e; subst e; exact ⟨_, rfl, h⟩
  | _, _, i + 1, _, .cons _ l, e => by
    obtain ⟨x, h1, h2⟩ := RepL.get (i := i) l (by simpa using e)
    exact ⟨x, by simpa using h1, h2⟩
theorem RepL.append : ∀ {ds es : List D} {xs ys : List V}, RepL K w H ds xs → RepL K w H es ys → RepL K w H (ds ++ es) (xs ++ ys)
  | _, _, _, _, .nil, l => l
  | _, _, _, _, .cons h t, l => .cons h (RepL.append t l)
theorem RepL.one {d : D} {x : V} (h : Rep K w H d x) : RepL K w H [d] [x] := .cons h .nil
theorem RepL.set {d : D} {x : V} (r : Rep K w H d x) : ∀ {ds : List D} {xs : List V} (i : Nat), RepL K w H ds xs → RepL K w H (ds.set i d) (xs.set i x)
  | _, _, _, .nil => .nil
  | _, _, 0, .cons _ t => .cons r t
  | _, _, i + 1, .cons h t => .cons h (RepL.set r i t)
theorem RepL.take : ∀ {ds : List D} {xs : List V} (n : Nat), RepL K w H ds xs → RepL K w H (ds.take n) (xs.take n)
  | _, _, 0, _ => .nil
  | _, _, _ + 1, .nil => .nil
  | _, _, n + 1, .cons h t => .cons h (RepL.take n t)
theorem RepL.drop : ∀ {ds : List D} {xs : List V} (n : Nat), RepL K w H ds xs → RepL K w H (ds.drop n) (xs.drop n)
  | _, _, 0, l => l
  | _, _, _ + 1, .nil => .nil
  | _, _, n + 1, .cons _ t => RepL.drop n t
theorem RepL.ints : ∀ (ns : List Int), RepL K w H (ns.map D.int) (ns.map V.int)
  | [] => .nil
  | n :: r => .cons (.int n) (RepL.ints r)
end

/-- what stands at an address that may change -/
inductive MO where
  | lst (ds : List D) | dk (kvs : List (Key × D)) | ins (C : Addr) (fs : List (Str × D)) | xd (fs : List (Str × D))
abbrev Mm := Addr → Option MO
def updM (M : Mm) (a : Addr) (o : MO) : Mm := fun b => if b = a then some o else M b
theorem updM_same {M : Mm} {a : Addr} {o : MO} : updM M a o a = some o := by unfold updM; rw [if_pos rfl]
theorem updM_ne {M : Mm} {a b : Addr} {o : MO} (h : b ≠ a) : updM M a o b = M b := by unfold updM; rw [if_neg h]
/-- fields, entries -/
inductive RepF {κ : Type} (K : PySem.W.Frag) (w : World) (H : Hp) : List (κ × D) → List (κ × V) → Prop
  | nil : RepF K w H [] []
  | cons {k : κ} {d : D} {x : V} {fs : List (κ × D)} {gs : List (κ × V)} : Rep K w H d x → RepF K w H fs gs → RepF K w H ((k, d) :: fs) ((k, x) :: gs)
def HRep (K : PySem.W.Frag) (w : World) (H : Hp) (a : Addr) : MO → Prop
  | .lst ds => ∃ xs, H a = some (.lst xs) ∧ RepL K w H ds xs
  | .dk kvs => ∃ gs, H a = some (.dK gs) ∧ RepF K w H kvs gs
  | .ins C fs => ∃ dx gs, H a = some (.ins C dx gs) ∧ RepF K w H fs gs
  | .xd fs => ∃ gs, H a = some (.xd gs) ∧ RepF K w H fs gs
def Rm (K : PySem.W.Frag) (w : World) (H : Hp) (M : Mm) : Prop := ∀ a o, M a = some o → HRep K w H a o
section
variable {K : PySem.W.Frag} {w : World} {H H' : Hp} {M : Mm}
theorem RepF.mono {κ : Type} (t : Tx K H H') : ∀ {fs : List (κ × D)} {gs : List (κ × V)}, RepF K w H fs gs → RepF K w H' fs gs
  | _, _, .nil => .nil
  | _, _, .cons h l => .cons (h.mono t) (RepF.mono t l)
theorem RepF.length {κ : Type} : ∀ {fs : List (κ × D)} {gs : List (κ × V)}, RepF K w H fs gs → gs.length = fs.length
  | _, _, .nil => rfl
  | _, _, .cons _ l => congrArg (· + 1) (RepF.length l)
theorem RepF.lookup {κ : Type} [BEq κ] : ∀ {fs : List (κ × D)} {gs : List (κ × V)} {f : κ} {d : D}, RepF K w H fs gs → fs.lookup f = some d → ∃ x, gs.lookup f = some x ∧ Rep K w H d x
  | _, _, f, _, .nil, e => by simp at e
  | _, _, f, _, .cons (k := k) h l, e => by
    rw [List.lookup_cons] at e
    rw [List.lookup_cons]
    cases q : (f == k) with
    | true => rw [q] at e; cases e; exact ⟨_, rfl, h⟩
    | false => rw [q] at e; exact RepF.lookup l e
theorem RepF.lookup_none {κ : Type} [BEq κ] : ∀ {fs : List (κ × D)} {gs : List (κ × V)} {f : κ}, RepF K w H fs gs → fs.lookup f = none → gs.lookup f = none
  | _, _, f, .nil, e => rfl
  | _, _, f, .cons (k := k) h l, e => by
    rw [List.lookup_cons] at e
    rw [List.lookup_cons]
    cases q : (f == k) with
    | true => rw [q] at e; cases e
    | false => rw [q] at e; exact RepF.lookup_none l e
theorem HRep.there {a : Addr} {o : MO} (h : HRep K w H a o) : ∃ u, H a = some u ∧ notT u := by
  cases o with
  | lst ds => obtain ⟨xs, e, _⟩ := h; exact ⟨_, e, trivial⟩
  | dk kvs => obtain ⟨gs, e, _⟩ := h; exact ⟨_, e, trivial⟩
  | ins C fs => obtain ⟨dx, gs, e, _⟩ := h; exact ⟨_, e, trivial⟩
  | xd fs => obtain ⟨gs, e, _⟩ := h; exact ⟨_, e, trivial⟩
theorem HRep.keep {a : Addr} {o : MO} (h : HRep K w H a o) (e : H' a = H a) (t : Tx K H H') : HRep K w H' a o := by
  cases o with
  | lst ds => obtain ⟨xs, q, r⟩ := h; exact ⟨xs, e.trans q, r.mono t⟩
  | dk kvs => obtain ⟨gs, q, r⟩ := h; exact ⟨gs, e.trans q, r.mono t⟩
  | ins C fs => obtain ⟨dx, gs, q, r⟩ := h; exact ⟨dx, gs, e.trans q, r.mono t⟩
  | xd fs => obtain ⟨gs, q, r⟩ := h; exact ⟨gs, e.trans q, r.mono t⟩
theorem Rm.free (r : Rm K w H M) {p : Addr} (h : H p = none) : M p = none := by
  cases e : M p with
  | none => rfl
  | some o =>
    obtain ⟨u, q, _⟩ := (r p o e).there
    rw [h] at q; cases q
/-- a thing is laid or changed at p -/
theorem Rm.upd (r : Rm K w H M) {p : Addr} {ho : HO} {mo : MO} (t : Tx K H (L2.upd H p ho)) (n : HRep K w (L2.upd H p ho) p mo) : Rm K w (L2.upd H p ho) (updM M p mo) := fun a o e => by
  by_cases h : a = p
  · subst h; rw [updM_same] at e; cases e; exact n
  · rw [updM_ne h] at e
    exact (r a o e).keep (upd_ne h) t
/-- a thing is laid that is not followed -/
theorem Rm.keepNew (r : Rm K w H M) {p : Addr} {ho : HO} (h : H p = none) : Rm K w (L2.upd H p ho) M := fun a o e => by
  have hn : a ≠ p := fun z => by subst z; rw [r.free h] at e; cases e
  exact (r a o e).keep (upd_ne hn) (Tx.new h)
theorem Rm.mono (r : Rm K w H M) {M' : Mm} (h : ∀ a o, M' a = some o → M a = some o) : Rm K w H M' := fun a o e => r a o (h a o e)
end

abbrev DEnv := List (Option D)
abbrev DQ := D → Mm → Prop
abbrev DE := DEnv → Mm → DQ → Prop
abbrev DT := DEnv → Mm → (Bool → Mm → Prop) → Prop
abbrev DA := DEnv → Mm → (List D → Mm → Prop) → Prop
structure DEnds where
  nx : DEnv → Mm → Prop
  rt : DQ
  bk : DEnv → Mm → Prop := fun _ _ => False
  ct : DEnv → Mm → Prop := fun _ _ => False
  xc : Value → Option Addr → DEnv → Mm → Prop := fun _ _ _ _ => False
abbrev DS := DEnds → DEnv → Mm → Prop
abbrev DX := Value → Option Addr → Mm → Prop
abbrev DSp := List D → Mm → DQ → DX → Prop

structure Sl (K : PySem.W.Frag) (w : World) (H : Hp) (σ : L2.St) (E : DEnv) : Prop where
  len : σ.length = E.length
  at_ : ∀ (i : Nat) d, E[i]? = some (some d) → ∃ v, σ[i]? = some (some v) ∧ Rep K w H d v
section
variable {K : PySem.W.Frag} {w : World} {H H' : Hp} {M : Mm} {σ : L2.St} {E : DEnv}
theorem Sl.mono (s : Sl K w H σ E) (t : Tx K H H') : Sl K w H' σ E := ⟨s.len, fun i d e => let ⟨v, h, r⟩ := s.at_ i d e; ⟨v, h, r.mono t⟩⟩
theorem Sl.set (s : Sl K w H σ E) {d : D} {v : V} (r : Rep K w H d v) (i : Nat) : Sl K w H (σ.set i (some v)) (E.set i (some d)) := by
  refine ⟨by rw [List.length_set, List.length_set, s.len], fun j e h => ?_⟩
  by_cases hj : i = j
  · subst hj
    have hl : i < E.length := by
      have := (List.getElem?_eq_some_iff.mp h).1
      rwa [List.length_set] at this
    rw [List.getElem?_set_self hl] at h
    cases h
    exact ⟨v, List.getElem?_set_self (by rw [s.len]; exact hl), r⟩
  · rw [List.getElem?_set_ne hj] at h
    obtain ⟨x, q, rr⟩ := s.at_ j e h
    exact ⟨x, by rw [List.getElem?_set_ne hj]; exact q, rr⟩
end
def wipeD (E : DEnv) : List Nat → DEnv
  | [] => E
  | v :: vs => (wipeD E vs).set v none
theorem Sl.wipe {K : PySem.W.Frag} {w : World} {H : Hp} {σ : L2.St} {E : DEnv} (s : Sl K w H σ E) : ∀ vs : List Nat, Sl K w H (L2.wipe σ vs) (wipeD E vs)
  | [] => s
  | v :: vs => by
    have h := Sl.wipe s vs
    refine ⟨?_, fun j e q => ?_⟩
    · show ((L2.wipe σ vs).set v none).length = ((wipeD E vs).set v none).length
      rw [List.length_set, List.length_set, h.len]
    · have q : ((wipeD E vs).set v none)[j]? = some (some e) := q
      show ∃ x, ((L2.wipe σ vs).set v none)[j]? = some (some x) ∧ _
      by_cases hj : v = j
      · subst hj
        by_cases hl : v < (wipeD E vs).length
        · rw [List.getElem?_set_self hl] at q; cases q
        · rw [List.getElem?_eq_none (by rw [List.length_set]; omega)] at q; cases q
      · rw [List.getElem?_set_ne hj] at q
        rw [List.getElem?_set_ne hj]
        exact h.at_ j e q

/-- the continuation at the deep level entails the one above the heap -/
def Kc (K : PySem.W.Frag) (w : World) (H : Hp) (Q' : DQ) (Q : VK) : Prop := ∀ v H' d M', Tx K H H' → Rm K w H' M' → Rep K w H' d v → Q' d M' → Q v H'
def tD (K : PySem.W.Frag) (w : World) (de : DE) : TE := fun σ H Q => ∃ E M Q', Sl K w H σ E ∧ Rm K w H M ∧ de E M Q' ∧ Kc K w H Q' Q
def ttD (K : PySem.W.Frag) (w : World) (dt : DT) : TT := fun σ H Q => ∃ E M Q', Sl K w H σ E ∧ Rm K w H M ∧ dt E M Q' ∧ ∀ b H' M', Tx K H H' → Rm K w H' M' → Q' b M' → Q b H'
def taD (K : PySem.W.Frag) (w : World) (da : DA) : TA := fun σ H Q => ∃ E M Q', Sl K w H σ E ∧ Rm K w H M ∧ da E M Q' ∧ ∀ vs H' ds M', Tx K H H' → Rm K w H' M' → RepL K w H' ds vs → Q' ds M' → Q vs H'
structure Kn (K : PySem.W.Frag) (w : World) (W : WX) (H : Hp) (D' : DEnds) (D : Ends) : Prop where
  nx : ∀ σ' H' E' M', Tx K H H' → Sl K w H' σ' E' → Rm K w H' M' → D'.nx E' M' → D.nx σ' H'
  rt : ∀ v H' d M', Tx K H H' → Rm K w H' M' → Rep K w H' d v → D'.rt d M' → D.rt v H'
  bk : ∀ σ' H' E' M', Tx K H H' → Sl K w H' σ' E' → Rm K w H' M' → D'.bk E' M' → D.bk σ' H'
  ct : ∀ σ' H' E' M', Tx K H H' → Sl K w H' σ' E' → Rm K w H' M' → D'.ct E' M' → D.ct σ' H'
  xc : ∀ cls d σ' H' E' M', Tx K H H' → Sl K w H' σ' E' → Rm K w H' M' → D'.xc cls d E' M' → W cls d σ' H'
def tsD (K : PySem.W.Frag) (w : World) (W : WX) (ds : DS) : TS := fun D σ H => ∃ E M D', Sl K w H σ E ∧ Rm K w H M ∧ ds D' E M ∧ Kn K w W H D' D
theorem Kn.tx {K : PySem.W.Frag} {w : World} {W : WX} {H H' : Hp} {D' : DEnds} {D : Ends} (k : Kn K w W H D' D) (t : Tx K H H') : Kn K w W H' D' D :=
  ⟨fun σ' H2 E' M' t2 => k.nx σ' H2 E' M' (t.trans t2), fun v H2 d M' t2 => k.rt v H2 d M' (t.trans t2), fun σ' H2 E' M' t2 => k.bk σ' H2 E' M' (t.trans t2), fun σ' H2 E' M' t2 => k.ct σ' H2 E' M' (t.trans t2), fun cls d σ' H2 E' M' t2 => k.xc cls d σ' H2 E' M' (t.trans t2)⟩
theorem Kc.tx {K : PySem.W.Frag} {w : World} {H H' : Hp} {Q' : DQ} {Q : VK} (k : Kc K w H Q' Q) (t : Tx K H H') : Kc K w H' Q' Q := fun v H2 d M' t2 => k v H2 d M' (t.trans t2)

/-! ### the judgements, weakened -/
section
variable {X : Cx} {e : Expr}
theorem pe_imp {t t' : TE} (h : PE X e t) (i : ∀ σ H Q, t' σ H Q → t σ H Q) : PE X e t' := ⟨fun pins s σ H Q I q => h.run pins s σ H Q I (i σ H Q q)⟩
theorem pt_imp {t t' : TT} (h : PT X e t) (i : ∀ σ H Q, t' σ H Q → t σ H Q) : PT X e t' := ⟨fun pins s σ H Q I q => h.run pins s σ H Q I (i σ H Q q)⟩
theorem pw_imp {t t' : TT} (h : PW X e t) (i : ∀ σ H Q, t' σ H Q → t σ H Q) : PW X e t' := ⟨fun wh pins s σ H Q I q => h.run wh pins s σ H Q I (i σ H Q q)⟩
theorem pa_imp {es : List Expr} {t t' : TA} (h : PA X es t) (i : ∀ σ H Q, t' σ H Q → t σ H Q) : PA X es t' := ⟨fun pos pins s σ H Q I q => h.run pos pins s σ H Q I (i σ H Q q)⟩
theorem ps_imp {st : Stmt} {t t' : TS} (h : PS X st t) (i : ∀ D σ H, t' D σ H → t D σ H) : PS X st t' := ⟨fun pins s σ H D I q => h.run pins s σ H D I (i D σ H q)⟩
theorem pss_imp {st : List Stmt} {t t' : TS} (h : PSs X st t) (i : ∀ D σ H, t' D σ H → t D σ H) : PSs X st t' := ⟨fun pins s σ H D I q => h.run pins s σ H D I (i D σ H q)⟩
theorem pi_imp {tg : Expr} {t t' : TI} (h : PI X tg e t) (i : ∀ σ H Q, t' σ H Q → t σ H Q) : PI X tg e t' := ⟨fun pins s σ H R I q => h.run pins s σ H R I (i σ H R q)⟩
end
/-- the judgements at the deep level -/
abbrev RE (X : Cx) (e : Expr) (de : DE) : Prop := PE X e (tD X.K X.w de)
abbrev RT (X : Cx) (e : Expr) (dt : DT) : Prop := PT X e (ttD X.K X.w dt)
abbrev RW (X : Cx) (e : Expr) (dt : DT) : Prop := PW X e (ttD X.K X.w dt)
abbrev RA (X : Cx) (es : List Expr) (da : DA) : Prop := PA X es (taD X.K X.w da)
abbrev RS (X : Cx) (st : Stmt) (ds : DS) : Prop := ∀ W : WX, L2.Takes X W → PS X st (tsD X.K X.w W ds)
abbrev RSs (X : Cx) (st : List Stmt) (ds : DS) : Prop := ∀ W : WX, L2.Takes X W → PSs X st (tsD X.K X.w W ds)

/-! ### names, constants -/
def dVar (i : Nat) : DE := fun E M Q => match E[i]? with
  | some (some d) => Q d M
  | _ => False
def dC (d : D) : DE := fun _ M Q => Q d M
section
variable {X : Cx}
theorem re_var (i : Nat) {x : Str} {pos : Pos} (h : PE X (.Name x pos) (tVar i)) : RE X (.Name x pos) (dVar i) := pe_imp h fun σ H Q ⟨E, M, Q', sl, rm, h, k⟩ => by
  unfold dVar at h
  split at h
  · rename_i d q
    obtain ⟨v, e, r⟩ := sl.at_ i d q
    exact ⟨v, e, k v H d M (Tx.refl H) rm r h⟩
  · exact h.elim
theorem re_c {e : Expr} {v : V} {d : D} (h : PE X e (tC v)) (r : ∀ H, Rep X.K X.w H d v) : RE X e (dC d) := pe_imp h fun σ H Q ⟨E, M, Q', sl, rm, h, k⟩ => k v H d M (Tx.refl H) rm (r H) h
theorem re_int {i j pos} : RE X (.Constant (.int i) j pos) (dC (.int i)) := re_c pe_int fun _ => .int i
theorem re_bl {b j pos} : RE X (.Constant (.bool b) j pos) (dC (.bl b)) := re_c pe_bl fun _ => .bl b
theorem re_non {j pos} : RE X (.Constant .none j pos) (dC .non) := re_c pe_non fun _ => .non
theorem re_str {x j pos} : RE X (.Constant (.str x) j pos) (dC (.str x)) := re_c pe_str fun _ => .str x
end

/-! ### operations by value -/
abbrev D2 := D → D → Mm → DQ → Prop
abbrev D1 := D → Mm → DQ → Prop
abbrev DL := List D → Mm → DQ → Prop
def R2R (K : PySem.W.Frag) (w : World) (r : R2) (o : D2) : Prop := ∀ dx dy M Q' x y H Q, Rm K w H M → Rep K w H dx x → Rep K w H dy y → o dx dy M Q' → Kc K w H Q' Q → r x y H Q
def R1R (K : PySem.W.Frag) (w : World) (r : V → Hp → VK → Prop) (o : D1) : Prop := ∀ dx M Q' x H Q, Rm K w H M → Rep K w H dx x → o dx M Q' → Kc K w H Q' Q → r x H Q
def RLR (K : PySem.W.Frag) (w : World) (r : List V → Hp → VK → Prop) (o : DL) : Prop := ∀ ds M Q' xs H Q, Rm K w H M → RepL K w H ds xs → o ds M Q' → Kc K w H Q' Q → r xs H Q
def dOp (o : D2) (da db : DE) : DE := fun E M Q => da E M fun x M1 => db E M1 fun y M2 => o x y M2 Q
def dUn (o : D1) (da : DE) : DE := fun E M Q => da E M fun x M1 => o x M1 Q
def dNil : DA := fun _ M Q => Q [] M
def dCons (da : DE) (dr : DA) : DA := fun E M Q => da E M fun x M1 => dr E M1 fun xs M2 => Q (x :: xs) M2
def dL (o : DL) (da : DA) : DE := fun E M Q => da E M fun ds M1 => o ds M1 Q
def dTup (da : DA) : DE := fun E M Q => da E M fun ds M1 => ds.length ≤ sizeLine ∧ Q (.tup ds) M1
def dLst (da : DA) : DE := fun E M Q => da E M fun ds M1 => ds.length ≤ sizeLine ∧ ∀ p, M1 p = none → Q (.ref p) (updM M1 p (.lst ds))
section
variable {X : Cx} {a b : Expr} {da db : DE} {pos : Pos}
theorem tD_op {K : PySem.W.Frag} {w : World} {r : R2} {o : D2} (hr : R2R K w r o) {σ : L2.St} {H : Hp} {Q : VK} (h : tD K w (dOp o da db) σ H Q) : tOp r (tD K w da) (tD K w db) σ H Q := by
  obtain ⟨E, M, Q', sl, rm, h, k⟩ := h
  refine ⟨E, M, _, sl, rm, h, fun v H1 d M1 t1 rm1 r1 q1 => ⟨E, M1, _, sl.mono t1, rm1, q1, fun v2 H2 d2 M2 t2 rm2 r2 q2 => ?_⟩⟩
  exact hr _ _ _ _ _ _ _ _ rm2 (r1.mono t2) r2 q2 (k.tx (t1.trans t2))
theorem re_op {op : Operator} {r : R2} {o : D2} (ho : OpR X (binaryOp op) r) (hr : R2R X.K X.w r o) (ha : RE X a da) (hb : RE X b db) : RE X (.BinOp a op b pos) (dOp o da db) :=
  pe_imp (pe_op ho ha hb) fun σ H Q h => tD_op hr h
theorem re_cmp {op : CmpOp} {r : R2} {o : D2} (ho : OpR X (compareOp op) r) (hr : R2R X.K X.w r o) (ha : RE X a da) (hb : RE X b db) (hm : behindInMarks op b = false) : RE X (.Compare a [op] [b] pos) (dOp o da db) :=
  pe_imp (pe_cmpR ho ha hb hm) fun σ H Q h => tD_op hr h
theorem re_ix {r : R2} {o : D2} (ho : IxR X r) (hr : R2R X.K X.w r o) (ha : RE X a da) (hb : RE X b db) (hs : PlainIx b) : RE X (.Subscript a b pos) (dOp o da db) :=
  pe_imp (pe_ix ho ha hb hs) fun σ H Q h => tD_op hr h
theorem re_un {op : UnaryOp} {r : V → Hp → VK → Prop} {o : D1} (ho : UnR X (unaryOp op) r) (hr : R1R X.K X.w r o) (ha : RE X a da) : RE X (.UnaryOp op a pos) (dUn o da) :=
  pe_imp (pe_un ho ha) fun σ H Q ⟨E, M, Q', sl, rm, h, k⟩ => ⟨E, M, _, sl, rm, h, fun v H1 d M1 t1 rm1 r1 q1 => hr _ _ _ _ _ _ rm1 r1 q1 (k.tx t1)⟩
theorem ra_nil : RA X [] dNil := pa_imp pa_nil fun σ H Q ⟨E, M, Q', sl, rm, h, k⟩ => k _ H _ M (Tx.refl H) rm .nil h
theorem ra_cons {e : Expr} {es : List Expr} {de : DE} {dr : DA} (ha : RE X e de) (hr : RA X es dr) (hs : starEach (e :: es) X.env = (false, eval e X.env) :: starEach es X.env := by rfl) : RA X (e :: es) (dCons de dr) :=
  pa_imp (pa_cons ha hr hs) fun σ H Q ⟨E, M, Q', sl, rm, h, k⟩ => by
    refine ⟨E, M, _, sl, rm, h, fun v H1 d M1 t1 rm1 r1 q1 => ⟨E, M1, _, sl.mono t1, rm1, q1, fun vs H2 ds M2 t2 rm2 r2 q2 => ?_⟩⟩
    exact k _ H2 _ M2 (t1.trans t2) rm2 (.cons (r1.mono t2) r2) q2
theorem re_tup {es : List Expr} {x1} {dr : DA} (h : RA X es dr) : RE X (.Tuple es x1 pos) (dTup dr) := pe_imp (pe_tup h) fun σ H Q ⟨E, M, Q', sl, rm, h, k⟩ => by
  refine ⟨E, M, _, sl, rm, h, fun vs H1 ds M1 t1 rm1 r1 q1 => ⟨by rw [r1.length]; exact q1.1, fun p hp => ?_⟩⟩
  exact k _ _ _ M1 (t1.trans (Tx.new hp)) (rm1.keepNew hp) (.tup (SqT.of upd_same) (r1.mono (Tx.new hp))) q1.2
theorem re_lst {es : List Expr} {dr : DA} (h : RA X es dr) : RE X (.List es pos) (dLst dr) := pe_imp (pe_lst h) fun σ H Q ⟨E, M, Q', sl, rm, h, k⟩ => by
  refine ⟨E, M, _, sl, rm, h, fun vs H1 ds M1 t1 rm1 r1 q1 => ⟨by rw [r1.length]; exact q1.1, fun p hp => ?_⟩⟩
  exact k _ _ _ _ (t1.trans (Tx.new hp)) (rm1.upd (mo := .lst ds) (Tx.new hp) ⟨vs, upd_same, r1.mono (Tx.new hp)⟩) (.ref p) (q1.2 p (rm1.free hp))
/-- a built-in called by its name -/
theorem re_callB {e : Expr} {es : List Expr} {x : Str} {p : Pos} {id : String} {r : List V → Hp → VK → Prop} {o : DL} {dr : DA} (hr : RLR X.K X.w r o) (hc : CallR X (.builtin id) r) (hg : Gl X x) (hm : X.mg x = none) (hv : bootBuiltins x = some (.builtin id)) (ha : RA X (e :: es) dr) (hn : x ≠ "__name__" := by decide) (hdb : (x == ("__debug__" : Str)) = false := by decide)
    (he : starEach (e :: es) X.env = (false, eval e X.env) :: starEach es X.env := by rfl) (hpl : (backTo pos (starEach es X.env)).any (·.1) = false := by rfl) : RE X (.Call (.Name x p) (e :: es) [] pos) (dL o dr) :=
  pe_imp (pe_callB hc hg hm hv ha hn hdb he hpl) fun σ H Q ⟨E, M, Q', sl, rm, h, k⟩ => ⟨E, M, _, sl, rm, h, fun vs H1 ds M1 t1 rm1 r1 q1 => hr _ _ _ _ _ _ rm1 r1 q1 (k.tx t1)⟩
theorem re_callTy {e : Expr} {es : List Expr} {x : Str} {p : Pos} {T : String} {r : List V → Hp → VK → Prop} {o : DL} {dr : DA} (hr : RLR X.K X.w r o) (hc : CallR X (.type T) r) (hg : Gl X x) (hm : X.mg x = none) (hv : bootBuiltins x = some (.type T)) (ha : RA X (e :: es) dr) (hn : x ≠ "__name__" := by decide) (hdb : (x == ("__debug__" : Str)) = false := by decide)
    (he : starEach (e :: es) X.env = (false, eval e X.env) :: starEach es X.env := by rfl) (hpl : (backTo pos (starEach es X.env)).any (·.1) = false := by rfl) : RE X (.Call (.Name x p) (e :: es) [] pos) (dL o dr) :=
  pe_imp (pe_callTy hc hg hm hv ha hn hdb he hpl) fun σ H Q ⟨E, M, Q', sl, rm, h, k⟩ => ⟨E, M, _, sl, rm, h, fun vs H1 ds M1 t1 rm1 r1 q1 => hr _ _ _ _ _ _ rm1 r1 q1 (k.tx t1)⟩
end

/-! ### a def's promise -/
def spD (K : PySem.W.Frag) (w : World) (sp : DSp) : Sp := fun vs H Q E => ∃ ds M Q' E', RepL K w H ds vs ∧ Rm K w H M ∧ sp ds M Q' E' ∧ Kc K w H Q' Q ∧ ∀ cls d H' M', Tx K H H' → Rm K w H' M' → E' cls d M' → E cls d H'
abbrev EX0 : DX := fun _ _ _ => False
def dCall (sp : DSp) (da : DA) : DE := fun E M Q => da E M fun ds M1 => sp ds M1 Q EX0
section
variable {X : Cx} {pos : Pos}
theorem re_call {CX : CXT} {k : Nat} {f : Addr} {fd : FuncData} {ps : List Str} {sp : DSp} {E : XK} {x : Str} {p : Pos} {e : Expr} {es : List Expr} {dr : DA} (F : FnOk X.prog X.w X.K X.mg X.base CX k f fd ps (spD X.K X.w sp)) (hr : Room k X.A) (hg : Gl X x) (hm : X.mg x = some (.ref f)) (hk : PySem.W.keepIn X.K (.ref f) = true) (hb : Binds X.K fd ps []) (hx : Passes CX X E)
    (ha : RA X (e :: es) dr) (hdb : (x == ("__debug__" : Str)) = false := by decide) (he : starEach (e :: es) X.env = (false, eval e X.env) :: starEach es X.env := by rfl) (hpl : (backTo pos (starEach es X.env)).any (·.1) = false := by rfl) :
    RE X (.Call (.Name x p) (e :: es) [] pos) (dCall sp dr) :=
  pe_imp (pe_call F hr hg hm hk hb .nil hx ha hdb he hpl) fun σ H Q ⟨E, M, Q', sl, rm, h, k⟩ => by
    refine ⟨E, M, _, sl, rm, h, fun vs H1 ds M1 t1 rm1 r1 q1 => ?_⟩
    show spD X.K X.w sp (vs ++ []) H1 Q _
    rw [List.append_nil]
    exact ⟨ds, M1, Q', EX0, r1, rm1, q1, k.tx t1, fun _ _ _ _ _ _ z => z.elim⟩
end
def startD (N : Nat) (ds : List D) : DEnv := ds.map some ++ List.replicate (N - ds.length) none
theorem repL_at {K : PySem.W.Frag} {w : World} {H : Hp} {N : List Str} {ds : List D} {vs : List V} (r : RepL K w H ds vs) : Sl K w H (start N vs) (startD N.length ds) := by
  have hl := r.length
  refine ⟨?_, fun i d e => ?_⟩
  · show (vs.map some ++ List.replicate (N.length - vs.length) none).length = (ds.map some ++ List.replicate (N.length - ds.length) none).length
    rw [List.length_append, List.length_append, List.length_map, List.length_map, List.length_replicate, List.length_replicate, hl]
  · unfold startD at e
    by_cases hi : i < ds.length
    · rw [List.getElem?_append_left (by rw [List.length_map]; exact hi), List.getElem?_map] at e
      obtain ⟨d', e1, e2⟩ := Option.map_eq_some_iff.mp e
      cases e2
      obtain ⟨x, h1, h2⟩ := r.get e1
      refine ⟨x, ?_, h2⟩
      show (vs.map some ++ List.replicate (N.length - vs.length) none)[i]? = _
      rw [List.getElem?_append_left (by rw [List.length_map, hl]; exact hi), List.getElem?_map, h1]
      rfl
    · rw [List.getElem?_append_right (by rw [List.length_map]; omega)] at e
      rw [List.getElem?_replicate] at e
      split at e <;> cases e
/-- THE RULE for a def: its body as a deep term, its promise from the reading -/
theorem fn_ok {P : Program} {w : World} {K : PySem.W.Frag} {mg : Str → Option Value} {base : Heap} {x qual : Str} {params : Arguments} {body : List Stmt} {scope : Scope} {f : Addr} {fd : FuncData} {N ps : List Str} {k : Nat} {sp : DSp} {b : DS}
    (F : FunD K x qual params body scope [] [] f fd) (S : FnScope N ps scope) (len : ∀ ds M Q E, sp ds M Q E → ds.length = ps.length)
    (hb : ∀ (cdv : Value) (A : Around) (outer : List Env) (s : Shared) (H : Hp) (E : XK), Room k (A.deeper (envOfC qual scope s.heap.objs.size f cdv)) → RSs (cxOf CX0 P w K mg base N qual scope f cdv A outer s H E).nox body b)
    (hq : ∀ ds M Q E, sp ds M Q E → b { nx := fun _ M' => Q .non M', rt := Q } (startD N.length ds) M) : FnOk P w K mg base CX0 (k + 1) f fd ps (spD K w sp) := by
  refine F.ok S (fun vs H Q E h => ?_) (fun cdv A outer s H vs Q E hr h => ?_)
  · obtain ⟨ds, M, Q', E', r, _, h, _⟩ := h
    rw [r.length]
    exact len _ _ _ _ h
  · obtain ⟨ds, M, Q', E', r, rm, h, kc, _⟩ := h
    refine ⟨_, (hb cdv A outer s H E hr (fun _ _ _ _ => False) takes0).nox, ⟨_, M, _, repL_at r, rm, hq _ _ _ _ h, ⟨fun σ' H' E' M' t _ rm' q => kc _ _ _ _ t rm' .non q, kc, fun _ _ _ _ _ _ _ z => z.elim, fun _ _ _ _ _ _ _ z => z.elim, fun _ _ _ _ _ _ _ _ _ z => z.elim⟩⟩⟩
end DH

set_option Elab.async false
set_option linter.all false
set_option autoImplicit false
set_option maxRecDepth 100000
set_option maxHeartbeats 4000000
/-! a tuple times a number, one or less too. -/
namespace DH
open PySem PySem.Spec PyProof.Rows L2
theorem tupMul1 (l : Addr) (its : Array Value) (n : Nat) (dd : Option Addr) (sl : Array (Option Value)) (u : Tok) :
    Meets (Builtin.«tuple.__mul__» ⟨[.ref l, .int 1 u], []⟩) (fun _ R s => s.heap.get? l = some { cls := .type "tuple", dict := dd, data := .seq its n, slots := sl } ∧ R (.ok (.ret (Value.ref l))) s) :=
  .of_wp fun prog w A R s h => by
    obtain ⟨hp, g, d, tk, os⟩ := s
    obtain ⟨hl, h⟩ := h
    have f1 := AutoSeq1.idx_int
    wp_walk using wpAny_loadPart' hl
    exact ⟨_, rfl, h⟩
theorem tupMul0 (l : Addr) (its : Array Value) (n : Nat) (dd : Option Addr) (sl : Array (Option Value)) (k : Int) (u : Tok) (c0 : (decide (k < -(2 ^ 63)) || decide (k ≥ 2 ^ 63)) = false) (c1 : (its.isEmpty || k == 1) = false) (c2 : (decide (k ≤ 0) || its.isEmpty) = true) :
    Meets (Builtin.«tuple.__mul__» ⟨[.ref l, .int k u], []⟩) (fun _ R s => s.heap.get? l = some { cls := .type "tuple", dict := dd, data := .seq its n, slots := sl } ∧
      R (.ok (.ret (Value.ref s.heap.objs.size))) { s with heap := s.heap.push { cls := Value.type "tuple", data := Data.seq #[] }, toks := s.toks }) :=
  .of_wp fun prog w A R s h => by
    obtain ⟨hp, g, d, tk, os⟩ := s
    obtain ⟨hl, h⟩ := h
    have f1 := AutoSeq1.idx_int
    wp_walk using wpAny_loadPart' hl
    repeat (first
      | (refine wpAny_ite_false (decide_eq_false (by rw [c0]; exact Bool.false_ne_true)) ?_; wp_walk using wpAny_loadPart' hl)
      | (refine wpAny_ite_false (decide_eq_false (by rw [c1]; exact Bool.false_ne_true)) ?_; wp_walk using wpAny_loadPart' hl)
      | (refine wpAny_ite_true c2 ?_; wp_walk using wpAny_loadPart' hl))
    exact ⟨_, rfl, h⟩
def rRepS (K : PySem.W.Frag) : R2 := fun x y H Q => ∃ l k xs, x = .ref l ∧ y = .int k ∧ SqT K H l xs ∧ xs ≠ [] ∧ -1000 ≤ k ∧ k ≤ 1 ∧ (k = 1 → Q (.ref l) H) ∧ (k ≤ 0 → ∀ p, H p = none → Q (.ref p) (upd H p (.tup [])))
theorem op_repS {X : Cx} : OpR X (binaryOp .Mult) (rRepS X.K) := fun pins s σ H x y v u Q I rx ry g => by
  obtain ⟨l, k, xs, rfl, rfl, hT, hne, lo, hi, q1, q0⟩ := g
  cases rx
  obtain ⟨t, rfl⟩ := ry
  obtain ⟨its, r, ⟨⟨cc, dd, dat, sl⟩, ho, hc, n, hd⟩, hs⟩ := I.tuple hT
  simp only at hc hd
  subst hc hd
  have hn : its ≠ [] := fun e => hne (by
    have := r.length
    rw [e] at this
    exact List.eq_nil_of_length_eq_zero this)
  have hi0 : its.toArray.isEmpty = false := by
    cases its with
    | nil => exact absurd rfl hn
    | cons a b => rfl
  by_cases hk : k = 1
  · subst hk
    refine wpAny_binaryOp_repeat_ref (T := "tuple") (U := "int") (by decide) ⟨_, ho, rfl⟩ (fun s' => typeIs_int s' 1 t) noFill_tuple_mul F.fills_int_mul F.slot_int_rmul repeat_tuple F.slot_int_index.lookup
      (call_meets F.slot_int_rmul (typeIs_int s 1 t) F.entry_int_rmul (F.args_int_rmul_2 _ _) (int_rmul_tuple 1 t l its.toArray n dd sl)
        ⟨ho, rfl, ⟨_, ho, rfl⟩, call_meets F.slot_tuple_mul ⟨_, ho, rfl⟩ F.entry_tuple_mul (F.args_tuple_mul_2 _ _) (tupMul1 l its.toArray n dd sl t) ⟨ho, ?_⟩⟩)
    exact ⟨.ref l, H, I, rfl, q1 rfl⟩
  · have k0 : k ≤ 0 := by omega
    have c0 : (decide (k < -(2 ^ 63)) || decide (k ≥ 2 ^ 63)) = false := by
      rw [decide_eq_false (by omega), decide_eq_false (by omega)] <;> rfl
    have c1 : (its.toArray.isEmpty || k == 1) = false := by
      rw [hi0, Bool.false_or]
      exact beq_eq_false_iff_ne.mpr hk
    have c2 : (decide (k ≤ 0) || its.toArray.isEmpty) = true := by rw [decide_eq_true k0]; rfl
    refine wpAny_binaryOp_repeat_ref (T := "tuple") (U := "int") (by decide) ⟨_, ho, rfl⟩ (fun s' => typeIs_int s' k t) noFill_tuple_mul F.fills_int_mul F.slot_int_rmul repeat_tuple F.slot_int_index.lookup
      (call_meets F.slot_int_rmul (typeIs_int s k t) F.entry_int_rmul (F.args_int_rmul_2 _ _) (int_rmul_tuple k t l its.toArray n dd sl)
        ⟨ho, rfl, ⟨_, ho, rfl⟩, call_meets F.slot_tuple_mul ⟨_, ho, rfl⟩ F.entry_tuple_mul (F.args_tuple_mul_2 _ _) (tupMul0 l its.toArray n dd sl k t c0 c1 c2) ⟨ho, ?_⟩⟩)
    refine ⟨.ref s.heap.objs.size, _, I.laid (t' := s.toks) (o := .tup []) (fun b ob q => Heap.get?_push_of_some _ q) (Nat.le_refl _) ?_, rfl, q0 k0 _ (I.hok.fresh (Nat.le_refl _))⟩
    exact ⟨by show 0 ≤ sizeLine; decide, [], .nil, IsTup.new _ _⟩
end DH

set_option Elab.async false
set_option linter.all false
set_option autoImplicit false
set_option maxRecDepth 100000
set_option maxHeartbeats 2000000
/-! Deep readings: the operations by value. -/
namespace DH
open PySem PySem.Spec PyProof.Rows L2

def IsL (M : Mm) (a : Addr) (ds : List D) : Prop := M a = some (.lst ds)
section
variable {K : PySem.W.Frag} {w : World} {H : Hp} {M : Mm}
theorem IsL.sq {a : Addr} {ds : List D} (h : IsL M a ds) (rm : Rm K w H M) : ∃ xs, SqL K H a xs ∧ RepL K w H ds xs := by
  obtain ⟨xs, e, r⟩ := rm a _ h
  exact ⟨xs, .inl (.inl e), r⟩
theorem Rep.inv_int {i : Int} {v : V} (r : Rep K w H (.int i) v) : v = .int i := by cases r; rfl
theorem Rep.inv_str {i : Str} {v : V} (r : Rep K w H (.str i) v) : v = .str i := by cases r; rfl
theorem Rep.inv_bl {i : Bool} {v : V} (r : Rep K w H (.bl i) v) : v = .bl i := by cases r; rfl
theorem Rep.inv_ref {i : Addr} {v : V} (r : Rep K w H (.ref i) v) : v = .ref i := by cases r; rfl
theorem Rep.inv_non {v : V} (r : Rep K w H .non v) : v = .non := by cases r; rfl
theorem Rep.inv_tup {ds : List D} {v : V} (r : Rep K w H (.tup ds) v) : ∃ a xs, v = .ref a ∧ SqT K H a xs ∧ RepL K w H ds xs := by
  cases r with
  | tup h l => exact ⟨_, _, rfl, h, l⟩
theorem Rep.inv_fl {ds : List D} {v : V} (r : Rep K w H (.fl ds) v) : ∃ a xs, v = .ref a ∧ FzL K H a xs ∧ RepL K w H ds xs := by
  cases r with
  | fl h l => exact ⟨_, _, rfl, h, l⟩
theorem Rep.inv_kd {ds : List (Str × D)} {v : V} (r : Rep K w H (.kd ds) v) : ∃ a, v = .ref a ∧ KdAt K w a ds := by
  cases r with
  | kd h => exact ⟨_, rfl, h⟩
theorem Kc.now {Q' : DQ} {Q : VK} {d : D} {v : V} (k : Kc K w H Q' Q) (rm : Rm K w H M) (r : Rep K w H d v) (q : Q' d M) : Q v H := k v H d M (Tx.refl H) rm r q
theorem Kc.newL {Q' : DQ} {Q : VK} {ds : List D} {xs : List V} (k : Kc K w H Q' Q) (rm : Rm K w H M) (r : RepL K w H ds xs) (q : ∀ p, M p = none → Q' (.ref p) (updM M p (.lst ds))) : ∀ p, H p = none → Q (.ref p) (L2.upd H p (.lst xs)) := fun p hp =>
  k _ _ _ _ (Tx.new hp) (rm.upd (mo := .lst ds) (Tx.new hp) ⟨xs, upd_same, r.mono (Tx.new hp)⟩) (.ref p) (q p (rm.free hp))
theorem Kc.newT {Q' : DQ} {Q : VK} {ds : List D} {xs : List V} (k : Kc K w H Q' Q) (rm : Rm K w H M) (r : RepL K w H ds xs) (q : Q' (.tup ds) M) : ∀ p, H p = none → Q (.ref p) (L2.upd H p (.tup xs)) := fun p hp =>
  k _ _ _ _ (Tx.new hp) (rm.keepNew hp) (.tup (SqT.of upd_same) (r.mono (Tx.new hp))) q
end

/-! ### arithmetic -/
def oInt (g : Int → Int → D) : D2 := fun x y M Q => match x, y with
  | .int i, .int j => Q (g i j) M
  | _, _ => False
def oIntC (C : Int → Int → Prop) (g : Int → Int → D) : D2 := fun x y M Q => match x, y with
  | .int i, .int j => C i j ∧ Q (g i j) M
  | _, _ => False
def oAdd : D2 := fun x y M Q => match x, y with
  | .int i, .int j => Q (.int (i + j)) M
  | .int i, .bl k => Q (.int (i + b2i k)) M
  | .str a, .str b => a.length + b.length ≤ sizeLine ∧ Q (.str (a ++ b)) M
  | .tup a, .tup b => a.length + b.length ≤ sizeLine ∧ Q (.tup (a ++ b)) M
  | .ref a, .ref b => ∃ xs ys, M a = some (.lst xs) ∧ M b = some (.lst ys) ∧ xs.length + ys.length ≤ sizeLine ∧ ∀ p, M p = none → Q (.ref p) (updM M p (.lst (xs ++ ys)))
  | _, _ => False
abbrev oSub : D2 := oInt fun i j => .int (i - j)
def oMul : D2 := fun x y M Q => match x, y with
  | .int i, .int j => CMul i j ∧ Q (.int (i * j)) M
  | .tup ds, .int k => ds ≠ [] ∧ ds.length ≤ 1000 ∧ -1000 ≤ k ∧ k ≤ 1000 ∧ Q (.tup (List.replicate k.toNat ds).flatten) M
  | _, _ => False
abbrev oFdiv : D2 := oIntC CDiv fun i j => .int (i / j)
abbrev oMod : D2 := oIntC (fun _ j => 0 < j) fun i j => .int (i % j)
abbrev oPow : D2 := oIntC CPow fun i j => .int (i ^ j.toNat)
abbrev oShl : D2 := oIntC CPow fun i j => .int (i * 2 ^ j.toNat)
abbrev oShr : D2 := oIntC (fun _ j => 0 ≤ j) fun i j => .int (i / 2 ^ j.toNat)
abbrev oAnd : D2 := oInt fun i j => .int (Builtin.bitAnd i j)
abbrev oOr : D2 := oInt fun i j => .int (Builtin.bitOr i j)
abbrev oXor : D2 := oInt fun i j => .int (Builtin.bitXor i j)
section
variable {K : PySem.W.Frag} {w : World} {X : Cx} {a b : Expr} {da db : DE} {pos : Pos}
theorem rr_int {g : Int → Int → V} {g' : Int → Int → D} (hg : ∀ i j H, Rep K w H (g' i j) (g i j)) : R2R K w (rI0 g) (oInt g') := fun dx dy M Q' x y H Q rm rx ry h k => by
  unfold oInt at h
  split at h
  · rename_i i j
    exact ⟨i, j, rx.inv_int, ry.inv_int, k.now rm (hg i j H) h⟩
  · exact h.elim
theorem rr_intC {C : Int → Int → Prop} {g : Int → Int → V} {g' : Int → Int → D} (hg : ∀ i j H, Rep K w H (g' i j) (g i j)) : R2R K w (rI C g) (oIntC C g') := fun dx dy M Q' x y H Q rm rx ry h k => by
  unfold oIntC at h
  split at h
  · rename_i i j
    exact ⟨i, j, rx.inv_int, ry.inv_int, h.1, k.now rm (hg i j H) h.2⟩
  · exact h.elim
theorem re_sub (ha : RE X a da) (hb : RE X b db) : RE X (.BinOp a .Sub b pos) (dOp oSub da db) := re_op op_sub (rr_int fun _ _ _ => .int _) ha hb
theorem RepL.rep {H : Hp} {ds : List D} {xs : List V} (l : RepL K w H ds xs) : ∀ n : Nat, RepL K w H (List.replicate n ds).flatten (List.replicate n xs).flatten
  | 0 => .nil
  | n + 1 => by
    rw [List.replicate_succ, List.replicate_succ, List.flatten_cons, List.flatten_cons]
    exact l.append (RepL.rep l n)
abbrev rMulA (K : PySem.W.Frag) : R2 := fun x y H Q => rI CMul (fun i j => .int (i * j)) x y H Q ∨ rRepT K x y H Q ∨ rRepS K x y H Q
theorem rr_mul : R2R K w (rMulA K) oMul := fun dx dy M Q' x y H Q rm rx ry h k => by
  unfold oMul at h
  split at h
  · rw [rx.inv_int, ry.inv_int]
    exact .inl ⟨_, _, rfl, rfl, h.1, k.now rm (.int _) h.2⟩
  · rename_i ds j
    obtain ⟨hne, hlen, lo, hi, q⟩ := h
    obtain ⟨a, xs, rfl, sq, l⟩ := rx.inv_tup
    rw [ry.inv_int]
    have hl := l.length
    have hx : xs ≠ [] := fun e => hne (List.eq_nil_of_length_eq_zero (by rw [← hl, e]; rfl))
    by_cases h2 : 2 ≤ j
    · exact .inr (.inl ⟨_, _, xs, rfl, rfl, sq, hx, h2, hi, by omega, k.newT rm (l.rep _) q⟩)
    · refine .inr (.inr ⟨_, _, xs, rfl, rfl, sq, hx, lo, by omega, fun e => ?_, fun e => ?_⟩)
      · subst e
        refine k.now rm (.tup sq l) ?_
        have e2 : (List.replicate (1 : Int).toNat ds).flatten = ds := by show (List.replicate 1 ds).flatten = ds; simp
        rw [e2] at q; exact q
      · have e2 : (List.replicate j.toNat ds).flatten = [] := by rw [show j.toNat = 0 by omega]; rfl
        rw [e2] at q
        exact k.newT rm .nil q
  · exact h.elim
theorem re_mul (ha : RE X a da) (hb : RE X b db) : RE X (.BinOp a .Mult b pos) (dOp oMul da db) := re_op (OpR.or op_mul (OpR.or op_repT op_repS)) rr_mul ha hb
theorem re_fdiv (ha : RE X a da) (hb : RE X b db) : RE X (.BinOp a .FloorDiv b pos) (dOp oFdiv da db) := re_op op_fdiv (rr_intC fun _ _ _ => .int _) ha hb
theorem re_mod (ha : RE X a da) (hb : RE X b db) : RE X (.BinOp a .Mod b pos) (dOp oMod da db) := re_op op_mod (rr_intC fun _ _ _ => .int _) ha hb
theorem re_pow (ha : RE X a da) (hb : RE X b db) : RE X (.BinOp a .Pow b pos) (dOp oPow da db) := re_op op_pow (rr_intC fun _ _ _ => .int _) ha hb
theorem re_shl (ha : RE X a da) (hb : RE X b db) : RE X (.BinOp a .LShift b pos) (dOp oShl da db) := re_op op_shl (rr_intC fun _ _ _ => .int _) ha hb
theorem re_shr (ha : RE X a da) (hb : RE X b db) : RE X (.BinOp a .RShift b pos) (dOp oShr da db) := re_op op_shr (rr_intC fun _ _ _ => .int _) ha hb
theorem re_band (ha : RE X a da) (hb : RE X b db) : RE X (.BinOp a .BitAnd b pos) (dOp oAnd da db) := re_op op_and (rr_int fun _ _ _ => .int _) ha hb
theorem re_bor (ha : RE X a da) (hb : RE X b db) : RE X (.BinOp a .BitOr b pos) (dOp oOr da db) := re_op op_or (rr_int fun _ _ _ => .int _) ha hb
theorem re_bxor (ha : RE X a da) (hb : RE X b db) : RE X (.BinOp a .BitXor b pos) (dOp oXor da db) := re_op op_xor (rr_int fun _ _ _ => .int _) ha hb
theorem re_add (ha : RE X a da) (hb : RE X b db) : RE X (.BinOp a .Add b pos) (dOp oAdd da db) := by
  refine re_op (OpR.or op_add (OpR.or op_add_ib (OpR.or op_add_str (OpR.or op_catA op_cat)))) (fun dx dy M Q' x y H Q rm rx ry h k => ?_) ha hb
  unfold oAdd at h
  split at h
  · rename_i i j
    exact .inl ⟨i, j, rx.inv_int, ry.inv_int, k.now rm (.int _) h⟩
  · rename_i i j
    exact .inr (.inl ⟨i, j, rx.inv_int, ry.inv_bl, k.now rm (.int _) h⟩)
  · rename_i i j
    exact .inr (.inr (.inl ⟨i, j, rx.inv_str, ry.inv_str, h.1, k.now rm (.str _) h.2⟩))
  · rename_i i j
    obtain ⟨p, xs, rfl, h1, l1⟩ := rx.inv_tup
    obtain ⟨q, ys, rfl, h2, l2⟩ := ry.inv_tup
    refine .inr (.inr (.inr (.inl ⟨p, q, xs, ys, rfl, rfl, h1, h2, by rw [l1.length, l2.length]; exact h.1, fun e => ?_, fun _ e => ?_, fun _ _ => k.newT rm (l1.append l2) h.2⟩)))
    · subst e
      cases l1
      exact k.now rm (.tup h2 l2) h.2
    · subst e
      cases l2
      exact k.now rm (.tup h1 (by rw [List.append_nil]; exact l1)) h.2
  · rename_i i j
    obtain ⟨xs, ys, h1, h2, h3, h4⟩ := h
    obtain ⟨us, e1, l1⟩ := rm _ _ h1
    obtain ⟨vs, e2, l2⟩ := rm _ _ h2
    exact .inr (.inr (.inr (.inr ⟨_, _, us, vs, rx.inv_ref, ry.inv_ref, e1, e2, by rw [l1.length, l2.length]; exact h3, k.newL rm (l1.append l2) h4⟩)))
  · exact h.elim
def oNeg : D1 := fun x M Q => match x with
  | .int i => Q (.int (-i)) M
  | _ => False
theorem re_neg (ha : RE X a da) : RE X (.UnaryOp .USub a pos) (dUn oNeg da) := re_un un_neg (fun dx M Q' x H Q rm rx h k => by
  unfold oNeg at h
  split at h
  · rename_i i
    exact ⟨i, rx.inv_int, k.now rm (.int _) h⟩
  · exact h.elim) ha

/-! ### comparisons -/
abbrev oLt : D2 := oInt fun i j => .bl (decide (i < j))
abbrev oLe : D2 := oInt fun i j => .bl (decide (i ≤ j))
abbrev oGt : D2 := oInt fun i j => .bl (decide (j < i))
abbrev oGe : D2 := oInt fun i j => .bl (decide (j ≤ i))
theorem rr_lt : R2R K w (rI0 fun i j => .bl (decide (i < j))) oLt := rr_int fun _ _ _ => .bl _
theorem rr_le : R2R K w (rI0 fun i j => .bl (decide (i ≤ j))) oLe := rr_int fun _ _ _ => .bl _
theorem rr_gt : R2R K w (rI0 fun i j => .bl (decide (j < i))) oGt := rr_int fun _ _ _ => .bl _
theorem rr_ge : R2R K w (rI0 fun i j => .bl (decide (j ≤ i))) oGe := rr_int fun _ _ _ => .bl _
end
mutual
/-- no address, no class in it -/
def pureD : D → Bool
  | .non | .bl _ | .int _ | .str _ => true
  | .tup xs => pureDs xs
  | _ => false
def pureDs : List D → Bool
  | [] => true
  | x :: xs => pureD x && pureDs xs
end
mutual
def toPD : D → PyData
  | .non => .none
  | .bl b => .bool b
  | .int i => .int i
  | .str x => .str x
  | .tup xs => .tuple (toPDs xs)
  | _ => .none
def toPDs : List D → List PyData
  | [] => []
  | x :: xs => toPD x :: toPDs xs
end
section
variable {K : PySem.W.Frag} {w : World} {H : Hp}
mutual
theorem dp_of : ∀ {d : D} {v : V}, Rep K w H d v → pureD d = true → Dp K H v (toPD d)
  | _, _, .non, _ => by unfold toPD; exact .non
  | _, _, .bl b, _ => by unfold toPD; exact .bl b
  | _, _, .int i, _ => by unfold toPD; exact .int i
  | _, _, .str x, _ => by unfold toPD; exact .str x
  | _, _, .ref a, h => by unfold pureD at h; cases h
  | _, _, .ty n, h => by unfold pureD at h; cases h
  | _, _, .kd n, h => by unfold pureD at h; cases h
  | _, _, .fl _ _, h => by unfold pureD at h; cases h
  | _, _, .tup s l, h => by
    unfold pureD at h
    unfold toPD
    exact .tup s (dps_of l h)
theorem dps_of : ∀ {ds : List D} {xs : List V}, RepL K w H ds xs → pureDs ds = true → DpAll K H xs (toPDs ds)
  | _, _, .nil, _ => by unfold toPDs; exact .nil
  | _, _, .cons r l, h => by
    unfold pureDs at h
    obtain ⟨h1, h2⟩ := Bool.and_eq_true_iff.mp h
    unfold toPDs
    exact .cons (dp_of r h1) (dps_of l h2)
end
end

/-- what a value is as data: lists too -/
inductive Vw (M : Mm) : D → PyData → Prop
  | non : Vw M .non .none
  | bl (b : Bool) : Vw M (.bl b) (.bool b)
  | int (i : Int) : Vw M (.int i) (.int i)
  | str (x : Str) : Vw M (.str x) (.str x)
  | lst {a : Addr} {ds : List D} (ps : List PyData) : IsL M a ds → ds.length = ps.length → (∀ (i : Nat) d p, ds[i]? = some d → ps[i]? = some p → Vw M d p) → Vw M (.ref a) (.list ps)
  | tup {ds : List D} (ps : List PyData) : ds.length = ps.length → (∀ (i : Nat) d p, ds[i]? = some d → ps[i]? = some p → Vw M d p) → Vw M (.tup ds) (.tuple ps)
section
variable {K : PySem.W.Frag} {w : World} {H : Hp} {M : Mm}
theorem dpAll_of {xs : List V} : ∀ {ps : List PyData}, xs.length = ps.length → (∀ (i : Nat) x p, xs[i]? = some x → ps[i]? = some p → Dp K H x p) → DpAll K H xs ps := by
  induction xs with
  | nil =>
    intro ps hl h
    cases ps with
    | nil => exact .nil
    | cons p ps => cases hl
  | cons x xs ih =>
    intro ps hl h
    cases ps with
    | nil => cases hl
    | cons p ps => exact .cons (h 0 x p rfl rfl) (ih (by simpa using hl) fun i x p a b => h (i + 1) x p (by simpa using a) (by simpa using b))
theorem RepL.inv {ds : List D} {xs : List V} (r : RepL K w H ds xs) {i : Nat} {x : V} (e : xs[i]? = some x) : ∃ d, ds[i]? = some d ∧ Rep K w H d x := by
  have hi := (List.getElem?_eq_some_iff.mp e).1
  rw [r.length] at hi
  obtain ⟨y, h1, h2⟩ := r.get (i := i) (d := ds[i]) (List.getElem?_eq_getElem hi)
  rw [e] at h1; cases h1
  exact ⟨_, List.getElem?_eq_getElem hi, h2⟩
theorem Vw.dp (rm : Rm K w H M) : ∀ {d : D} {p : PyData}, Vw M d p → ∀ {v : V}, Rep K w H d v → Dp K H v p := by
  intro d p h
  induction h with
  | non => intro v r; rw [r.inv_non]; exact .non
  | bl b => intro v r; rw [r.inv_bl]; exact .bl b
  | int b => intro v r; rw [r.inv_int]; exact .int b
  | str b => intro v r; rw [r.inv_str]; exact .str b
  | lst ps hl hn _ ih =>
    intro v r
    rw [r.inv_ref]
    obtain ⟨xs, sq, l⟩ := hl.sq rm
    refine .lst sq (dpAll_of (by rw [l.length]; exact hn) fun i x p a b => ?_)
    obtain ⟨d, e, rr⟩ := l.inv a
    exact ih i d p e b rr
  | tup ps hn _ ih =>
    intro v r
    obtain ⟨a, xs, rfl, sq, l⟩ := r.inv_tup
    refine .tup sq (dpAll_of (by rw [l.length]; exact hn) fun i x p a b => ?_)
    obtain ⟨d, e, rr⟩ := l.inv a
    exact ih i d p e b rr
end
/-! ### dicts as pairs -/
def keyD : Key → D
  | .inl i => .int i
  | .inr x => .str x
def valD (kvs : List (Key × D)) (k : Key) : Option D := (kvs.find? fun kv => decide (kv.1 = k)).map (·.2)
def putD (kvs : List (Key × D)) (k : Key) (v : D) : List (Key × D) :=
  if (kvs.any fun kv => decide (kv.1 = k)) = true then kvs.map (fun kv => if kv.1 = k then (kv.1, v) else kv) else kvs ++ [(k, v)]
section
variable {K : PySem.W.Frag} {w : World} {H : Hp} {M : Mm}
theorem keyD_rep {k : Key} {v : V} (r : Rep K w H (keyD k) v) : v = kV k := by
  cases k with
  | inl i => exact r.inv_int
  | inr x => exact r.inv_str
theorem RepF.val : ∀ {kvs : List (Key × D)} {gs : List (Key × V)}, RepF K w H kvs gs → ∀ (k : Key), (∀ d, valD kvs k = some d → ∃ x, valV gs k = some x ∧ Rep K w H d x) ∧ (valD kvs k = none → valV gs k = none)
  | _, _, .nil, k => ⟨fun d h => by simp [valD] at h, fun _ => rfl⟩
  | _, _, .cons (k := k') r l, k => by
    have ih := RepF.val l k
    by_cases e : k' = k
    · refine ⟨fun d h => ?_, fun h => ?_⟩
      · simp only [valD, List.find?_cons, decide_eq_true e, Option.map_some] at h
        cases h
        exact ⟨_, valV_pos e, r⟩
      · simp only [valD, List.find?_cons, decide_eq_true e, Option.map_some] at h
        cases h
    · refine ⟨fun d h => ?_, fun h => ?_⟩
      · simp only [valD, List.find?_cons, decide_eq_false e] at h
        rw [valV_neg e]
        exact ih.1 d h
      · simp only [valD, List.find?_cons, decide_eq_false e] at h
        rw [valV_neg e]
        exact ih.2 h
theorem RepF.val_isSome {kvs : List (Key × D)} {gs : List (Key × V)} (r : RepF K w H kvs gs) (k : Key) : (valV gs k).isSome = (valD kvs k).isSome := by
  cases e : valD kvs k with
  | none => rw [(r.val k).2 e]; rfl
  | some d => obtain ⟨x, h, _⟩ := (r.val k).1 d e; rw [h]; rfl
theorem RepF.append {κ : Type} : ∀ {fs fs' : List (κ × D)} {gs gs' : List (κ × V)}, RepF K w H fs gs → RepF K w H fs' gs' → RepF K w H (fs ++ fs') (gs ++ gs')
  | _, _, _, _, .nil, r => r
  | _, _, _, _, .cons h l, r => .cons h (RepF.append l r)
theorem RepF.any {kvs : List (Key × D)} {gs : List (Key × V)} (r : RepF K w H kvs gs) (k : Key) : (gs.any fun kv => decide (kv.1 = k)) = (kvs.any fun kv => decide (kv.1 = k)) := by
  induction r with
  | nil => rfl
  | cons h l ih => rw [List.any_cons, List.any_cons, ih]
theorem RepF.repl {kvs : List (Key × D)} {gs : List (Key × V)} (r : RepF K w H kvs gs) (k : Key) {d : D} {x : V} (rx : Rep K w H d x) :
    RepF K w H (kvs.map fun kv => if kv.1 = k then (kv.1, d) else kv) (gs.map fun kv => if kv.1 = k then (kv.1, x) else kv) := by
  induction r with
  | nil => exact .nil
  | @cons k' d' x' fs gs h l ih =>
    rw [List.map_cons, List.map_cons]
    by_cases e : k' = k
    · rw [if_pos e, if_pos e]; exact .cons rx ih
    · rw [if_neg e, if_neg e]; exact .cons h ih
theorem RepF.put {kvs : List (Key × D)} {gs : List (Key × V)} (r : RepF K w H kvs gs) (k : Key) {d : D} {x : V} (rx : Rep K w H d x) : RepF K w H (putD kvs k d) (putK gs k x) := by
  unfold putD putK
  rw [r.any k]
  split
  · exact r.repl k rx
  · exact r.append (.cons rx .nil)
end

/-! ### equality -/
def scalEq : D → D → Option Bool
  | .int i, .int j => some (decide (i = j))
  | .str i, .str j => some (decide (i = j))
  | .bl i, .bl j => some (decide (i = j))
  | .non, .non => some true
  | .int _, .str _ => some false
  | .str _, .int _ => some false
  | .non, .int _ => some false
  | .int _, .non => some false
  | .non, .bl _ => some false
  | .bl _, .non => some false
  | .non, .str _ => some false
  | .str _, .non => some false
  | .bl _, .str _ => some false
  | .str _, .bl _ => some false
  | _, _ => none
/-- two dicts of the same data -/
def sameDk (x y : D) (M : Mm) : Prop := ∃ a b kvs kvs', x = .ref a ∧ y = .ref b ∧ M a = some (.dk kvs) ∧ M b = some (.dk kvs') ∧ kvs.length = kvs'.length ∧ ∀ kv ∈ kvs, valD kvs' kv.1 = some kv.2 ∧ pureD kv.2 = true ∧ SeqAt.shaped (toPD kv.2) = true
def oEq : D2 := fun x y M Q => match scalEq x y with
  | some b => Q (.bl b) M
  | none => (∃ p q, Vw M x p ∧ Vw M y q ∧ SeqAt.shaped p = true ∧ SeqAt.shaped q = true ∧ Q (.bl (PyData.eqv p q)) M) ∨ (sameDk x y M ∧ Q (.bl true) M)
def oNe : D2 := fun x y M Q => match scalEq x y with
  | some b => Q (.bl (!b)) M
  | none => ∃ p q, Vw M x p ∧ Vw M y q ∧ SeqAt.shaped p = true ∧ SeqAt.shaped q = true ∧ Q (.bl (!PyData.eqv p q)) M
theorem scal_ok {K : PySem.W.Frag} {w : World} {H : Hp} {x y : D} {b : Bool} (h : scalEq x y = some b) {v u : V} (rx : Rep K w H x v) (ry : Rep K w H y u) : scal v u = true ∧ decide (v = u) = b := by
  unfold scalEq at h
  split at h
  · rw [rx.inv_int, ry.inv_int]; cases h; exact ⟨rfl, by simp⟩
  · rw [rx.inv_str, ry.inv_str]; cases h; exact ⟨rfl, by simp⟩
  · rw [rx.inv_bl, ry.inv_bl]; cases h; exact ⟨rfl, by simp⟩
  · rw [rx.inv_non, ry.inv_non]; cases h; exact ⟨rfl, by simp⟩
  · rw [rx.inv_int, ry.inv_str]; cases h; exact ⟨rfl, by simp⟩
  · rw [rx.inv_str, ry.inv_int]; cases h; exact ⟨rfl, by simp⟩
  · rw [rx.inv_non, ry.inv_int]; cases h; exact ⟨rfl, by simp⟩
  · rw [rx.inv_int, ry.inv_non]; cases h; exact ⟨rfl, by simp⟩
  · rw [rx.inv_non, ry.inv_bl]; cases h; exact ⟨rfl, by simp⟩
  · rw [rx.inv_bl, ry.inv_non]; cases h; exact ⟨rfl, by simp⟩
  · rw [rx.inv_non, ry.inv_str]; cases h; exact ⟨rfl, by simp⟩
  · rw [rx.inv_str, ry.inv_non]; cases h; exact ⟨rfl, by simp⟩
  · rw [rx.inv_bl, ry.inv_str]; cases h; exact ⟨rfl, by simp⟩
  · rw [rx.inv_str, ry.inv_bl]; cases h; exact ⟨rfl, by simp⟩
  · cases h
section
variable {K : PySem.W.Frag} {w : World}
/-- what two values are, the same data -/
def SameP (K : PySem.W.Frag) (H : Hp) (x y : V) : Prop := ∃ d, Dp K H x d ∧ Dp K H y d ∧ SeqAt.shaped d = true
def rEqK (K : PySem.W.Frag) : R2 := fun x y H Q => EqR K H (SameP K H) x y ∧ Q (.bl true) H
theorem op_eqK {X : Cx} (hu : X.A.units + 66 < cLine) : OpR X (compareOp .Eq) (rEqK X.K) := by
  intro pins s σ H x y v u Q I rx ry h
  obtain ⟨h, q⟩ := h
  refine eqR_run I (A := X.A) (by omega) (fun x y v u f rx ry => ?_) h rx ry _ _ ⟨.bl true, H, I, rfl, q⟩
  obtain ⟨d, h1, h2, h3⟩ := f
  obtain ⟨as, r1⟩ := Dp.reads I d x v h1 rx
  obtain ⟨bs, r2⟩ := Dp.reads I d y u h2 ry
  have e := SeqAt.eqAt_reads d d X.A.in1 s v u as bs r1 r2 (SeqAt.canLay_of_shaped h3) (SeqAt.canLay_of_shaped h3) (SeqAt.room_of_shaped h3 (by show X.A.units + 1 + 64 < cLine; omega))
  rw [SeqAt.eqv_refl d (SeqAt.canLay_of_shaped h3)] at e
  exact e.eqP
theorem RepF.memb {H : Hp} {kvs : List (Key × D)} {gs : List (Key × V)} (r : RepF K w H kvs gs) : ∀ p ∈ gs, ∃ kv ∈ kvs, kv.1 = p.1 ∧ Rep K w H kv.2 p.2 := by
  induction r with
  | nil => intro p hp; cases hp
  | @cons k d x fs gs h l ih =>
    intro p hp
    rcases List.mem_cons.mp hp with rfl | hp
    · exact ⟨(k, d), by simp, rfl, h⟩
    · obtain ⟨kv, h1, h2⟩ := ih p hp
      exact ⟨kv, List.mem_cons_of_mem _ h1, h2⟩
theorem rr_eq : R2R K w (fun x y H Q => (rEq x y H Q ∨ rEqD K x y H Q) ∨ rEqK K x y H Q) oEq := fun dx dy M Q' x y H Q rm rx ry h k => by
  unfold oEq at h
  split at h
  · rename_i b q
    obtain ⟨h1, h2⟩ := scal_ok q rx ry
    exact .inl (.inl ⟨h1, by rw [h2]; exact k.now rm (.bl _) h⟩)
  · rcases h with ⟨p, q, h1, h2, h3, h4, h5⟩ | ⟨⟨a, b, kvs, kvs', rfl, rfl, ha, hb, hl, hall⟩, h5⟩
    · exact .inl (.inr ⟨p, q, h1.dp rm rx, h2.dp rm ry, h3, h4, k.now rm (.bl _) h5⟩)
    · obtain ⟨gs, g1, g2⟩ := rm a _ ha
      obtain ⟨gs', g1', g2'⟩ := rm b _ hb
      refine .inr ⟨.inr ⟨a, b, gs, gs', rx.inv_ref, ry.inv_ref, g1, g1', by rw [g2.length, g2'.length, hl], fun p hp => ?_⟩, k.now rm (.bl _) h5⟩
      obtain ⟨kv, m1, e1, r1⟩ := g2.memb p hp
      obtain ⟨v1, v2, v3⟩ := hall kv m1
      rw [e1] at v1
      obtain ⟨x, hx, rx2⟩ := (g2'.val p.1).1 _ v1
      exact ⟨x, hx, toPD kv.2, dp_of r1 v2, dp_of rx2 v2, v3⟩
theorem rr_ne : R2R K w (fun x y H Q => rNe x y H Q ∨ rNeD K x y H Q) oNe := fun dx dy M Q' x y H Q rm rx ry h k => by
  unfold oNe at h
  split at h
  · rename_i b q
    obtain ⟨h1, h2⟩ := scal_ok q rx ry
    exact .inl ⟨h1, by rw [h2]; exact k.now rm (.bl _) h⟩
  · obtain ⟨p, q, h1, h2, h3, h4, h5⟩ := h
    exact .inr ⟨p, q, h1.dp rm rx, h2.dp rm ry, h3, h4, k.now rm (.bl _) h5⟩
end
theorem op_eqA {X : Cx} (hu : X.A.units + 66 < cLine) : OpR X (compareOp .Eq) (fun x y H Q => (rEq x y H Q ∨ rEqD X.K x y H Q) ∨ rEqK X.K x y H Q) := OpR.or (OpR.or op_eq (op_eqD (Nat.lt_of_le_of_lt (Nat.add_le_add_left (by decide) _) hu))) (op_eqK hu)
theorem op_neA {X : Cx} (hu : X.A.units + 66 < cLine) : OpR X (compareOp .NotEq) (fun x y H Q => rNe x y H Q ∨ rNeD X.K x y H Q) := OpR.or op_ne (op_neD (Nat.lt_of_le_of_lt (Nat.add_le_add_left (by decide) _) hu))
theorem hu66 {k : Nat} {A : Around} (r : Room k A) : A.units + 66 < cLine := by have := r.un; omega

/-! ### membership -/
def flatD : D → Bool
  | .non | .bl _ | .int _ | .str _ => true
  | _ => false
def eqF : D → D → Bool
  | .non, .non => true
  | .bl a, .bl b => a == b
  | .bl a, .int j => (if a then 1 else 0) == j
  | .int i, .bl b => i == (if b then 1 else 0)
  | .int i, .int j => i == j
  | .str a, .str b => a == b
  | _, _ => false
def inD (x : D) (ds : List D) : Bool := ds.any fun y => eqF y x
section
variable {K : PySem.W.Frag} {w : World} {H : Hp} {M : Mm}
theorem flat_rep {d : D} {v : V} (r : Rep K w H d v) (h : flatD d = true) : flatV v = true := by
  cases r <;> first | rfl | cases h
theorem flat_all : ∀ {ds : List D} {xs : List V}, RepL K w H ds xs → ds.all flatD = true → xs.all flatV = true
  | _, _, .nil, _ => rfl
  | _, _, .cons r l, h => by
    rw [List.all_cons, Bool.and_eq_true] at h
    rw [List.all_cons, flat_rep r h.1, flat_all l h.2]; rfl
theorem eqF_rep {x y : D} {v u : V} (rx : Rep K w H x v) (ry : Rep K w H y u) (hx : flatD x = true) (hy : flatD y = true) : eqV v u = eqF x y := by
  cases rx <;> cases ry <;> first | rfl | (exfalso; revert hx hy; simp [flatD])
theorem inD_rep {x : D} {v : V} (rx : Rep K w H x v) (hx : flatD x = true) : ∀ {ds : List D} {xs : List V}, RepL K w H ds xs → ds.all flatD = true → inV v xs = inD x ds
  | _, _, .nil, _ => rfl
  | _, _, .cons r l, h => by
    rw [List.all_cons, Bool.and_eq_true] at h
    have ih := inD_rep rx hx l h.2
    unfold inV at ih ⊢
    unfold inD at ih ⊢
    rw [List.any_cons, List.any_cons, ih, eqF_rep r rx h.1 hx]
end
/-- a key of a dict -/
def isKeyD : D → Option Key
  | .int i => some (.inl i)
  | .str x => some (.inr x)
  | _ => none
theorem isKeyD_eq {x : D} {k : Key} (h : isKeyD x = some k) : x = keyD k := by
  unfold isKeyD at h
  split at h <;> cases h <;> rfl
def inM (x : D) (y : D) (M : Mm) (Q : Bool → Prop) : Prop := match x, y with
  | .str c, .str z => ∃ n, c = ⟨#[n]⟩ ∧ Q (decide (n ∈ z.cps.toList))
  | .str z, .kd kvs => Q (kvs.lookup z).isSome
  | x, .tup ds => flatD x = true ∧ ds.all flatD = true ∧ Q (inD x ds)
  | x, .ref a => (∃ ds, IsL M a ds ∧ flatD x = true ∧ ds.all flatD = true ∧ Q (inD x ds)) ∨ ∃ kvs k, M a = some (.dk kvs) ∧ isKeyD x = some k ∧ Q (valD kvs k).isSome
  | _, _ => False
def oIn (neg : Bool) : D2 := fun x y M Q => inM x y M fun b => Q (.bl (if neg then !b else b)) M
def rKd (K : PySem.W.Frag) (w : World) (neg : Bool) : R2 := fun x y H Q => ∃ d es n z r, KDict K w d es n ∧ x = .str z ∧ y = .ref d ∧ PySem.W.nsIn K d z = some r ∧ Q (.bl (if neg then !r.isSome else r.isSome)) H
def rDk (neg : Bool) : R2 := fun x y H Q => ∃ a o, y = .ref a ∧ DGet H a x o ∧ Q (.bl (if neg then !o.isSome else o.isSome)) H
section
variable {X : Cx}
theorem op_kdA : OpR X (compareOp .In) (rKd X.K X.w false) := fun pins s σ H x y v u Q I rx ry ⟨d, es, n, z, r, D, h1, h2, h3, h4⟩ => op_in_kd D pins s σ H x y v u Q I rx ry ⟨z, r, h1, h2, h3, h4⟩
theorem op_kdN : OpR X (compareOp .NotIn) (rKd X.K X.w true) := fun pins s σ H x y v u Q I rx ry ⟨d, es, n, z, r, D, h1, h2, h3, h4⟩ => op_notIn_kd D pins s σ H x y v u Q I rx ry ⟨z, r, h1, h2, h3, h4⟩
theorem op_dkA (hu : X.A.units + 1 < cLine) : OpR X (compareOp .In) (rDk false) := fun pins s σ H x y v u Q I rx ry ⟨a, o, h1, h2, h3⟩ => by
  subst h1
  cases (show u = Value.ref a from ry)
  exact d_in hu I h2 rx fun s' I' => ⟨.bl o.isSome, H, I', rfl, h3⟩
theorem op_dkN (hu : X.A.units + 1 < cLine) : OpR X (compareOp .NotIn) (rDk true) := fun pins s σ H x y v u Q I rx ry ⟨a, o, h1, h2, h3⟩ => by
  subst h1
  cases (show u = Value.ref a from ry)
  exact d_notIn hu I h2 rx fun s' I' => ⟨.bl (!o.isSome), H, I', rfl, h3⟩
def rInS (neg : Bool) : R2 := fun x y H Q => ∃ (c : Nat) (z : Str), x = .str ⟨#[c]⟩ ∧ y = .str z ∧ Q (.bl (if neg then !decide (c ∈ z.cps.toList) else decide (c ∈ z.cps.toList))) H
abbrev rInA (K : PySem.W.Frag) (w : World) (neg : Bool) : R2 := fun x y H Q => rInS neg x y H Q ∨ rKd K w neg x y H Q ∨ rIn K neg x y H Q ∨ rDk neg x y H Q
theorem op_inA (hu : X.A.units + 1 < cLine) : OpR X (compareOp .In) (rInA X.K X.w false) := by
  have h : OpR X (compareOp .In) (rInS false) := op_in_sign
  exact OpR.or h (OpR.or op_kdA (OpR.or op_in_seq (op_dkA hu)))
theorem op_notInA (hu : X.A.units + 1 < cLine) : OpR X (compareOp .NotIn) (rInA X.K X.w true) := by
  have h : OpR X (compareOp .NotIn) (rInS true) := op_notIn_sign
  exact OpR.or h (OpR.or op_kdN (OpR.or op_notIn_seq (op_dkN hu)))
end
theorem rr_in {K : PySem.W.Frag} {w : World} {neg : Bool} : R2R K w (rInA K w neg) (oIn neg) := fun dx dy M Q' x y H Q rm rx ry h k => by
  unfold oIn inM at h
  split at h
  · obtain ⟨n, h1, h2⟩ := h
    subst h1
    exact .inl ⟨n, _, rx.inv_str, ry.inv_str, k.now rm (.bl _) h2⟩
  · rename_i z kvs
    obtain ⟨a, rfl, ka⟩ := ry.inv_kd
    obtain ⟨es, n, kd, _⟩ := ka.kd
    cases e : kvs.lookup z with
    | none =>
      rw [e] at h
      exact .inr (.inl ⟨a, es, n, z, none, kd, rx.inv_str, rfl, ka.miss z e, k.now rm (.bl _) h⟩)
    | some d =>
      rw [e] at h
      obtain ⟨u, v, h1, h2, _⟩ := ka.hit z d e
      exact .inr (.inl ⟨a, es, n, z, some u, kd, rx.inv_str, rfl, h1, k.now rm (.bl _) h⟩)
  · obtain ⟨h1, h2, h3⟩ := h
    obtain ⟨a, xs, rfl, sq, l⟩ := ry.inv_tup
    exact .inr (.inr (.inl ⟨a, xs, rfl, .inr sq, flat_rep rx h1, flat_all l h2, k.now rm (.bl _) (by rw [inD_rep rx h1 l h2]; exact h3)⟩))
  · rename_i a
    rw [ry.inv_ref]
    rcases h with ⟨ds, h0, h1, h2, h3⟩ | ⟨kvs, kk, h0, h1, h2⟩
    · obtain ⟨xs, sq, l⟩ := h0.sq rm
      exact .inr (.inr (.inl ⟨a, xs, rfl, .inl sq, flat_rep rx h1, flat_all l h2, k.now rm (.bl _) (by rw [inD_rep rx h1 l h2]; exact h3)⟩))
    · obtain ⟨gs, e, r⟩ := rm _ _ h0
      have ex := isKeyD_eq h1
      subst ex
      rw [keyD_rep rx]
      exact .inr (.inr (.inr ⟨a, _, rfl, DGet.k e, k.now rm (.bl _) (by rw [r.val_isSome]; exact h2)⟩))
  · exact h.elim
end DH

set_option Elab.async false
set_option linter.all false
set_option autoImplicit false
set_option maxRecDepth 100000
set_option maxHeartbeats 2000000
/-! Deep readings: subscripts, slices, built-ins, tests. -/
namespace DH
open PySem PySem.Spec PyProof.Rows L2
theorem Flt.rep {K : PySem.W.Frag} {w : World} {H : Hp} {d : D} {v : V} (f : Flt d v) : Rep K w H d v := by
  cases f
  · exact .non
  · exact .bl _
  · exact .int _
  · exact .str _
theorem atI_rep {K : PySem.W.Frag} {w : World} {H : Hp} {ds : List D} {xs : List V} (l : RepL K w H ds xs) {i : Int} {d : D} (h : atI ds i = some d) : ∃ x, atI xs i = some x ∧ Rep K w H d x := by
  unfold atI at h ⊢
  rw [l.length]
  cases e : ixN ds.length i with
  | none => rw [e] at h; cases h
  | some j =>
    rw [e] at h
    exact l.get h
/-! ### subscripts -/
def oIx : D2 := fun x y M Q => match x, y with
  | .tup ds, .int i => ∃ d, atI ds i = some d ∧ Q d M
  | .str z, .int i => z.length ≤ sizeLine ∧ ∃ c, atI z.cps.toList i = some c ∧ Q (.str ⟨#[c]⟩) M
  | .kd kvs, .str z => ∃ d, kvs.lookup z = some d ∧ Q d M
  | .fl ds, .int i => ∃ d, atI ds i = some d ∧ Q d M
  | .ref a, y => (∃ ds i d, IsL M a ds ∧ y = .int i ∧ atI ds i = some d ∧ Q d M) ∨ ∃ kvs k d, M a = some (.dk kvs) ∧ isKeyD y = some k ∧ valD kvs k = some d ∧ Q d M
  | _, _ => False
def rIxK (K : PySem.W.Frag) (w : World) : R2 := fun x y H Q => ∃ d es n z u v, KDict K w d es n ∧ x = .ref d ∧ y = .str z ∧ PySem.W.nsIn K d z = some (some u) ∧ RelV v u ∧ Q v H
def rIxD : R2 := fun x y H Q => ∃ a v, x = .ref a ∧ DGet H a y (some v) ∧ Q v H
section
variable {X : Cx}
theorem ix_kd : IxR X (rIxK X.K X.w) := by
  intro value slice pins s σ H x y v u Q I rx ry h hs
  obtain ⟨d, es, n, z, u0, v0, D, rfl, rfl, h1, h2, h3⟩ := h
  have e : v = Value.ref d := rx
  subst e
  exact tail_any (kd_type D I) PySem.F.slot_dict_getitem.lookup (op_item_kd D pins s σ H (.ref d) (.str z) _ _ Q I rfl ry ⟨z, u0, v0, rfl, rfl, h1, h2, h3⟩) hs
theorem ix_dk (hu : X.A.units + 1 < cLine) : IxR X rIxD := by
  intro value slice pins s σ H x y v u Q I rx ry h hs
  obtain ⟨a, v0, rfl, g, q⟩ := h
  have e : v = Value.ref a := rx
  subst e
  exact tail_any (dict_typeIs I g) PySem.F.slot_dict_getitem.lookup (d_getItem hu I g ry fun w' s3 I3 rw' => ⟨v0, H, I3, rw', q⟩) hs
abbrev rIxA (K : PySem.W.Frag) (w : World) : R2 := fun x y H Q => rIxT K x y H Q ∨ rIxL K x y H Q ∨ rIxS x y H Q ∨ rIxK K w x y H Q ∨ rIxD x y H Q
theorem ix_all (hu : X.A.units + 1 < cLine) : IxR X (rIxA X.K X.w) := IxR.or ix_tup (IxR.or ix_list (IxR.or ix_str (IxR.or ix_kd (ix_dk hu))))
end
theorem rr_ix {K : PySem.W.Frag} {w : World} : R2R K w (rIxA K w) oIx := fun dx dy M Q' x y H Q rm rx ry h k => by
  unfold oIx at h
  split at h
  · obtain ⟨d, h1, h2⟩ := h
    obtain ⟨a, xs, rfl, sq, l⟩ := rx.inv_tup
    obtain ⟨v, e, r⟩ := atI_rep l h1
    exact .inl ⟨a, xs, _, v, rfl, ry.inv_int, sq, e, k.now rm r h2⟩
  · obtain ⟨h0, c, h1, h2⟩ := h
    exact .inr (.inr (.inl ⟨_, _, c, rx.inv_str, ry.inv_int, h0, h1, k.now rm (.str _) h2⟩))
  · obtain ⟨d, h1, h2⟩ := h
    obtain ⟨a, rfl, ka⟩ := rx.inv_kd
    obtain ⟨es, n, kd, _⟩ := ka.kd
    obtain ⟨u, v, g1, g2, g3⟩ := ka.hit _ _ h1
    exact .inr (.inr (.inr (.inl ⟨a, es, n, _, u, v, kd, rfl, ry.inv_str, g1, g2, k.now rm g3.rep h2⟩)))
  · obtain ⟨d, h1, h2⟩ := h
    obtain ⟨a, xs, rfl, sq, l⟩ := rx.inv_fl
    obtain ⟨v, e, r⟩ := atI_rep l h1
    exact .inr (.inl ⟨a, xs, _, v, rfl, ry.inv_int, sq.sq, e, k.now rm r h2⟩)
  · rw [rx.inv_ref]
    rcases h with ⟨ds, i, d, h0, h1, h2, h3⟩ | ⟨kvs, kk, d, h0, h1, h2, h3⟩
    · obtain ⟨xs, sq, l⟩ := h0.sq rm
      obtain ⟨v, e, r⟩ := atI_rep l h2
      subst h1
      exact .inr (.inl ⟨_, xs, i, v, rfl, ry.inv_int, sq, e, k.now rm r h3⟩)
    · obtain ⟨gs, e, r⟩ := rm _ _ h0
      have ex := isKeyD_eq h1
      subst ex
      obtain ⟨v, e1, e2⟩ := (r.val kk).1 d h2
      rw [keyD_rep ry]
      exact .inr (.inr (.inr (.inr ⟨_, v, rfl, by rw [← e1]; exact DGet.k e, k.now rm e2 h3⟩)))
  · exact h.elim

/-! ### slices -/
abbrev DO := DEnv → Mm → (Option Int → Mm → Prop) → Prop
def toD (K : PySem.W.Frag) (w : World) (do_ : DO) : TO := fun σ H Q => ∃ E M Q', Sl K w H σ E ∧ Rm K w H M ∧ do_ E M Q' ∧ ∀ o H' M', Tx K H H' → Rm K w H' M' → Q' o M' → Q o H'
def dNoPart : DO := fun _ M Q => Q none M
def dPart (de : DE) : DO := fun E M Q => de E M fun d M1 => match d with
  | .int i => Q (some i) M1
  | _ => False
def cutL (α : Type) (xs : List α) (lo hi : Option Int) : List α := (xs.drop (HT.sIx xs.length 0 lo)).take (HT.sIx xs.length xs.length hi - HT.sIx xs.length 0 lo)
def oSl (x : D) (lo hi : Option Int) (M : Mm) (Q : DQ) : Prop := match x with
  | .tup ds => Q (.tup (cutL D ds lo hi)) M
  | .str z => z.length ≤ sizeLine ∧ Q (.str (cutS z lo hi)) M
  | .ref a => ∃ ds, IsL M a ds ∧ ∀ p, M p = none → Q (.ref p) (updM M p (.lst (cutL D ds lo hi)))
  | _ => False
def dSl (de : DE) (dl dh : DO) : DE := fun E M Q => de E M fun x M1 => dl E M1 fun lo M2 => dh E M2 fun hi M3 => oSl x lo hi M3 Q
section
variable {X : Cx} {e : Expr} {de : DE} {lo hi : Option Expr} {dl dh : DO} {pos p2 : Pos}
theorem po_imp {o : Option Expr} {t t' : TO} (h : PO X o t) (i : ∀ σ H Q, t' σ H Q → t σ H Q) : PO X o t' := ⟨fun pins s σ H Q I q => h.run pins s σ H Q I (i σ H Q q)⟩
abbrev RO (X : Cx) (o : Option Expr) (d : DO) : Prop := PO X o (toD X.K X.w d)
theorem ro_none : RO X none dNoPart := po_imp po_none fun σ H Q ⟨E, M, Q', sl, rm, h, k⟩ => k _ H M (Tx.refl H) rm h
theorem ro_some (h : RE X e de) : RO X (some e) (dPart de) := po_imp (po_some h) fun σ H Q ⟨E, M, Q', sl, rm, h, k⟩ => ⟨E, M, _, sl, rm, h, fun v H1 d M1 t1 rm1 r1 q1 => by
  split at q1
  · rename_i i
    exact ⟨i, r1.inv_int, k _ _ _ t1 rm1 q1⟩
  · exact q1.elim⟩
theorem cut_rep {K : PySem.W.Frag} {w : World} {H : Hp} {ds : List D} {xs : List V} (l : RepL K w H ds xs) (lo hi : Option Int) : RepL K w H (cutL D ds lo hi) (cutV xs lo hi) := by
  unfold cutL cutV
  rw [l.length]
  exact (l.drop _).take _
theorem re_slice (he : RE X e de) (hl : RO X lo dl) (hh : RO X hi dh) : RE X (.Subscript e (.Slice lo hi none p2) pos) (dSl de dl dh) :=
  pe_imp (pe_slice (SlR.or sl_tupA (SlR.or sl_str sl_list)) he hl hh) fun σ H Q ⟨E, M, Q', sl, rm, h, k⟩ => by
    refine ⟨E, M, _, sl, rm, h, fun v H1 d M1 t1 rm1 r1 q1 => ⟨E, M1, _, sl.mono t1, rm1, q1, fun l H2 M2 t2 rm2 q2 => ⟨E, M2, _, (sl.mono t1).mono t2, rm2, q2, fun u H3 M3 t3 rm3 q3 => ?_⟩⟩⟩
    have r3 := (r1.mono t2).mono t3
    have k3 := ((k.tx t1).tx t2).tx t3
    unfold oSl at q3
    split at q3
    · rename_i ds
      obtain ⟨a, xs, rfl, sq, ll⟩ := r3.inv_tup
      refine .inl ⟨a, xs, rfl, sq, fun e => ?_, fun _ => k3.newT rm3 (cut_rep ll l u) q3⟩
      refine k3.now rm3 (.tup sq ?_) q3
      have c := cut_rep ll l u
      have ce : cutV xs l u = xs := by
        unfold cutV
        rw [e.1, e.2, List.drop_zero, Nat.sub_zero, List.take_length]
      rw [ce] at c
      exact c
    · exact .inr (.inl ⟨_, r3.inv_str, q3.1, k3.now rm3 (.str _) q3.2⟩)
    · obtain ⟨ds, h1, h2⟩ := q3
      obtain ⟨xs, sq, ll⟩ := h1.sq rm3
      exact .inr (.inr ⟨_, xs, r3.inv_ref, sq, k3.newL rm3 (cut_rep ll l u) h2⟩)
    · exact q3.elim
end

/-! ### built-ins -/
section
variable {K : PySem.W.Frag} {w : World} {H : Hp}
theorem RepL.inv1 {d : D} {xs : List V} (r : RepL K w H [d] xs) : ∃ v, xs = [v] ∧ Rep K w H d v := by
  cases r with
  | cons a t => cases t; exact ⟨_, rfl, a⟩
theorem RepL.inv2 {d e : D} {xs : List V} (r : RepL K w H [d, e] xs) : ∃ v u, xs = [v, u] ∧ Rep K w H d v ∧ Rep K w H e u := by
  cases r with
  | cons a t =>
    obtain ⟨u, rfl, b⟩ := t.inv1
    exact ⟨_, u, rfl, a, b⟩
end
def oLen : DL := fun ds M Q => match ds with
  | [.str z] => z.length ≤ sizeLine ∧ Q (.int z.length) M
  | [.tup ds] => Q (.int ds.length) M
  | [.kd kvs] => Q (.int kvs.length) M
  | [.fl ds] => Q (.int ds.length) M
  | [.ref a] => (∃ ds, IsL M a ds ∧ Q (.int ds.length) M) ∨ ∃ kvs, M a = some (.dk kvs) ∧ Q (.int kvs.length) M
  | _ => False
def rLenK (K : PySem.W.Frag) (w : World) : List V → Hp → VK → Prop := fun xs H Q => ∃ d es n, KDict K w d es n ∧ xs = [.ref d] ∧ (es.size : Int) < 2 ^ 63 ∧ Q (.int es.size) H
theorem exact_of (es : Array DictEntry) (n : Nat) : ({ cls := .type "dict", dict := none, data := .dict es n, slots := #[] } : Obj).ExactDict := by
  first
    | exact ⟨rfl, rfl, rfl⟩
    | exact ⟨rfl, rfl⟩
    | constructor <;> rfl
theorem call_lenK {X : Cx} : CallR X (.builtin "len") (rLenK X.K X.w) := by
  intro pins s σ H xs us Q I r h
  obtain ⟨d, es, n, D, rfl, hz, q⟩ := h
  obtain ⟨u, rfl, ru⟩ := vals1 r
  have e : u = Value.ref d := ru
  subst e
  have hm : s.heap.DictRaw d es n := ⟨_, I.kIn _ _ D.at_, exact_of es n, rfl⟩
  refine Calls.call_function_entry PySem.kind_len PySem.plain_len PySem.entry_len (PySem.args_len1 _) ?_
  unfold Builtin.«len»
  refine wpAny_bind (m := oneArg "len" _) (wpAny_pure ?_)
  refine wpAny_bind (m := callSpecial? (.ref d) (Str.ofString "__len__")) (wpAny_callSpecial?_slot (name := Str.ofString "__len__") hm.typeIs PySem.F.slot_dict_len (PySem.call_len_raw D.low hm ?_))
  show wpAny _ _ _ _ _ { s with toks := s.toks + 1 }
  refine wpAny_bind (wpAny_holding (wpAny_pure ?_))
  refine wpAny_bind (wpAny_letGo ?_)
  show wpAny _ _ (if ((es.size : Nat) : Int) < 0 then _ else _) _ _ _
  rw [if_neg (by omega)]
  show wpAny _ _ (if ((es.size : Nat) : Int) ≥ 2 ^ 63 then _ else _) _ _ _
  rw [if_neg (by omega)]
  refine wpAny_bind (wpAny_mkInt (wpAny_pure ⟨_, rfl, ?_⟩))
  exact ⟨.int es.size, H, I.tok _, ⟨_, rfl⟩, q⟩
end DH

set_option Elab.async false
set_option linter.all false
set_option autoImplicit false
set_option maxRecDepth 100000
set_option maxHeartbeats 2000000
/-! Deep readings: built-ins called, methods, isinstance. -/
namespace DH
open PySem PySem.Spec PyProof.Rows L2
section
variable {K : PySem.W.Frag} {w : World} {H : Hp} {M : Mm}
theorem RepL.intsInv : ∀ {ns : List Int} {xs : List V}, RepL K w H (ns.map D.int) xs → xs = ns.map V.int
  | [], _, .nil => rfl
  | n :: ns, _, .cons r l => by rw [r.inv_int, RepL.intsInv l]; rfl
theorem IsL.ints {a : Addr} {ns : List Int} (h : IsL M a (ns.map D.int)) (rm : Rm K w H M) : SqL K H a (ns.map V.int) := by
  obtain ⟨xs, sq, l⟩ := h.sq rm
  rw [l.intsInv] at sq
  exact sq
end
theorem call_lenA {X : Cx} : CallR X (.builtin "len") (fun xs H Q => rLenK X.K X.w xs H Q ∨ (∃ x n, xs = [x] ∧ LenV X.K x H n ∧ Q (.int n) H) ∨ ∃ a kvs, xs = [V.ref a] ∧ H a = some (.dK kvs) ∧ Q (.int kvs.length) H) :=
  CallR.or call_lenK (CallR.or call_len call_lenD)
section
variable {K : PySem.W.Frag} {w : World}
theorem rl_len : RLR K w (fun xs H Q => rLenK K w xs H Q ∨ (∃ x n, xs = [x] ∧ LenV K x H n ∧ Q (.int n) H) ∨ ∃ a kvs, xs = [V.ref a] ∧ H a = some (.dK kvs) ∧ Q (.int kvs.length) H)
    oLen := fun ds M Q' xs H Q rm rl h k => by
  unfold oLen at h
  split at h
  · obtain ⟨v, rfl, r⟩ := rl.inv1
    rw [r.inv_str]
    exact .inr (.inl ⟨_, _, rfl, ⟨h.1, rfl⟩, k.now rm (.int _) h.2⟩)
  · obtain ⟨v, rfl, r⟩ := rl.inv1
    obtain ⟨a, xs, rfl, sq, l⟩ := r.inv_tup
    exact .inr (.inl ⟨_, xs.length, rfl, .inr ⟨xs, sq, rfl⟩, k.now rm (.int _) (by rw [l.length]; exact h)⟩)
  · rename_i kvs
    obtain ⟨v, rfl, r⟩ := rl.inv1
    obtain ⟨a, rfl, ka⟩ := r.inv_kd
    obtain ⟨es, n, kd, hz⟩ := ka.kd
    have := ka.small
    exact .inl ⟨a, es, n, kd, rfl, by omega, k.now rm (.int _) (by rw [hz]; exact h)⟩
  · obtain ⟨v, rfl, r⟩ := rl.inv1
    obtain ⟨a, xs, rfl, sq, l⟩ := r.inv_fl
    exact .inr (.inl ⟨_, xs.length, rfl, .inl ⟨xs, sq.sq, rfl⟩, k.now rm (.int _) (by rw [l.length]; exact h)⟩)
  · obtain ⟨v, rfl, r⟩ := rl.inv1
    rw [r.inv_ref]
    rcases h with ⟨ds, h1, h2⟩ | ⟨kvs, h1, h2⟩
    · obtain ⟨xs, sq, l⟩ := h1.sq rm
      exact .inr (.inl ⟨_, xs.length, rfl, .inl ⟨xs, sq, rfl⟩, k.now rm (.int _) (by rw [l.length]; exact h2)⟩)
    · obtain ⟨gs, e, r⟩ := rm _ _ h1
      exact .inr (.inr ⟨_, gs, rfl, e, k.now rm (.int _) (by rw [r.length]; exact h2)⟩)
  · exact h.elim
end
def oInt1 : DL := fun ds M Q => match ds with
  | [.int i] => Q (.int i) M
  | [.bl b] => Q (.int (if b then 1 else 0)) M
  | _ => False
def oAbs : DL := fun ds M Q => match ds with
  | [.int i] => Q (.int (if i < 0 then -i else i)) M
  | _ => False
def oMin2 : DL := fun ds M Q => match ds with
  | [.int i, .int j] => Q (.int (if j < i then j else i)) M
  | _ => False
def oSumL : DL := fun ds M Q => ∃ (a : Addr) (ns : List Int), ds = [.ref a] ∧ IsL M a (ns.map D.int) ∧ Q (.int ns.sum) M
def oTuple : DL := fun ds M Q => match ds with
  | [.tup xs] => Q (.tup xs) M
  | [.ref a] => ∃ xs, IsL M a xs ∧ Q (.tup xs) M
  | _ => False
def oList : DL := fun ds M Q => match ds with
  | [.tup xs] => ∀ p, M p = none → Q (.ref p) (updM M p (.lst xs))
  | [.ref a] => ∃ xs, IsL M a xs ∧ ∀ p, M p = none → Q (.ref p) (updM M p (.lst xs))
  | _ => False
section
variable {K : PySem.W.Frag} {w : World}
theorem rl_int1 : RLR K w (fun xs H Q => (∃ i, xs = [.int i] ∧ Q (.int i) H) ∨ ∃ k, xs = [.bl k] ∧ Q (.int (if k then 1 else 0)) H) oInt1 := fun ds M Q' xs H Q rm rl h k => by
  unfold oInt1 at h
  split at h
  · obtain ⟨v, rfl, r⟩ := rl.inv1
    rw [r.inv_int]
    exact .inl ⟨_, rfl, k.now rm (.int _) h⟩
  · obtain ⟨v, rfl, r⟩ := rl.inv1
    rw [r.inv_bl]
    exact .inr ⟨_, rfl, k.now rm (.int _) h⟩
  · exact h.elim
theorem rl_abs : RLR K w (fun xs H Q => ∃ i, xs = [.int i] ∧ Q (.int (if i < 0 then -i else i)) H) oAbs := fun ds M Q' xs H Q rm rl h k => by
  unfold oAbs at h
  split at h
  · obtain ⟨v, rfl, r⟩ := rl.inv1
    rw [r.inv_int]
    exact ⟨_, rfl, k.now rm (.int _) h⟩
  · exact h.elim
theorem rl_min2 : RLR K w (fun xs H Q => ∃ i j, xs = [.int i, .int j] ∧ Q (.int (if j < i then j else i)) H) oMin2 := fun ds M Q' xs H Q rm rl h k => by
  unfold oMin2 at h
  split at h
  · obtain ⟨v, u, rfl, r, r2⟩ := rl.inv2
    rw [r.inv_int, r2.inv_int]
    exact ⟨_, _, rfl, k.now rm (.int _) h⟩
  · exact h.elim
theorem rl_sumL : RLR K w (rSum K) oSumL := fun ds M Q' xs H Q rm rl h k => by
  obtain ⟨a, ns, rfl, h1, h2⟩ := h
  obtain ⟨v, rfl, r⟩ := rl.inv1
  rw [r.inv_ref]
  exact ⟨a, ns, rfl, h1.ints rm, k.now rm (.int _) h2⟩
theorem rl_tuple : RLR K w (fun xs H Q => ∃ p ys, xs = [.ref p] ∧ ((SqL K H p ys ∧ ∀ l, H l = none → Q (.ref l) (upd H l (.tup ys))) ∨ (SqT K H p ys ∧ Q (.ref p) H))) oTuple := fun ds M Q' xs H Q rm rl h k => by
  unfold oTuple at h
  split at h
  · obtain ⟨v, rfl, r⟩ := rl.inv1
    obtain ⟨a, xs, rfl, sq, l⟩ := r.inv_tup
    exact ⟨a, xs, rfl, .inr ⟨sq, k.now rm (.tup sq l) h⟩⟩
  · obtain ⟨v, rfl, r⟩ := rl.inv1
    obtain ⟨ds, h1, h2⟩ := h
    obtain ⟨xs, sq, l⟩ := h1.sq rm
    rw [r.inv_ref]
    exact ⟨_, xs, rfl, .inl ⟨sq, k.newT rm l h2⟩⟩
  · exact h.elim
theorem rl_list : RLR K w (fun xs H Q => ∃ p ys, xs = [.ref p] ∧ (SqL K H p ys ∨ SqT K H p ys) ∧ ∀ l, H l = none → Q (.ref l) (upd H l (.lst ys))) oList := fun ds M Q' xs H Q rm rl h k => by
  unfold oList at h
  split at h
  · obtain ⟨v, rfl, r⟩ := rl.inv1
    obtain ⟨a, xs, rfl, sq, l⟩ := r.inv_tup
    exact ⟨a, xs, rfl, .inr sq, k.newL rm l h⟩
  · obtain ⟨v, rfl, r⟩ := rl.inv1
    obtain ⟨ds, h1, h2⟩ := h
    obtain ⟨xs, sq, l⟩ := h1.sq rm
    rw [r.inv_ref]
    exact ⟨_, xs, rfl, .inl sq, k.newL rm l h2⟩
  · exact h.elim
end

/-! ### types -/
inductive Ty where
  | non | bl | int | str | tup | lst | dct
  deriving DecidableEq
def Ty.nm : Ty → String
  | .non => "NoneType" | .bl => "bool" | .int => "int" | .str => "str" | .tup => "tuple" | .lst => "list" | .dct => "dict"
def isTy : Ty → Ty → Bool
  | .bl, .int => true
  | .non, .non => true
  | .bl, .bl => true
  | .int, .int => true
  | .str, .str => true
  | .tup, .tup => true
  | .lst, .lst => true
  | .dct, .dct => true
  | _, _ => false
theorem kit_all (a b : Ty) : kitB a.nm b.nm = some (isTy a b) := by
  cases a <;> cases b <;> decide +kernel
def tyM (x : D) (M : Mm) (q : Ty → Prop) : Prop := match x with
  | .non => q .non
  | .bl _ => q .bl
  | .int _ => q .int
  | .str _ => q .str
  | .tup _ => q .tup
  | .kd _ => q .dct
  | .ref a => (∃ ds, IsL M a ds ∧ q .lst) ∨ ∃ kvs, M a = some (.dk kvs) ∧ q .dct
  | _ => False
theorem ty_rep {K : PySem.W.Frag} {w : World} {H : Hp} {M : Mm} {x : D} {v : V} {q : Ty → Prop} (h : tyM x M q) (rm : Rm K w H M) (r : Rep K w H x v) : ∃ t : Ty, q t ∧ TyX K H v (.type t.nm) := by
  unfold tyM at h
  split at h
  · rw [r.inv_non]; exact ⟨_, h, .base .non⟩
  · rw [r.inv_bl]; exact ⟨_, h, .base (.bl _)⟩
  · rw [r.inv_int]; exact ⟨_, h, .base (.int _)⟩
  · rw [r.inv_str]; exact ⟨_, h, .base (.str _)⟩
  · obtain ⟨a, xs, rfl, sq, l⟩ := r.inv_tup
    refine ⟨_, h, ?_⟩
    rcases sq with (e | ⟨o, e⟩) | ⟨o, its, n, e, c, _⟩
    · exact .base (.tup e)
    · exact .fTuple e
    · exact .kTuple e c
  · obtain ⟨a, rfl, ka⟩ := r.inv_kd
    obtain ⟨es, n, kd, _⟩ := ka.kd
    exact ⟨_, h, .kDict kd.at_ rfl⟩
  · rw [r.inv_ref]
    rcases h with ⟨ds, h1, h2⟩ | ⟨kvs, h1, h2⟩
    · refine ⟨_, h2, ?_⟩
      obtain ⟨xs, e, _⟩ := rm _ _ h1
      exact .base (.lst e)
    · obtain ⟨gs, e, _⟩ := rm _ _ h1
      exact ⟨_, h2, .base (.dK e)⟩
  · exact h.elim
/-- isinstance(e, T), isinstance(e, (T1, T2)) -/
def dIs (cs : List Ty) (de : DE) : DE := fun E M Q => de E M fun d M1 => tyM d M1 fun t => Q (.bl (cs.any (isTy t))) M1
section
variable {X : Cx} {e c1 c2 : Expr} {de : DE} {p pos p2 : Pos} {k2 : Nat → Nat}
theorem re_isi (c : Ty) (he : RE X e de) (hc : PE X c1 (tC (.ty c.nm))) (hg : Gl X "isinstance") (hm : X.mg "isinstance" = none)
    (h1 : starEach [e, c1] X.env = (false, eval e X.env) :: starEach [c1] X.env := by rfl) (h2 : starEach [c1] X.env = (false, eval c1 X.env) :: starEach [] X.env := by rfl) (hpl : (backTo pos (starEach [c1] X.env)).any (·.1) = false := by rfl) :
    RE X (.Call (.Name "isinstance" p) [e, c1] [] pos) (dIs [c] de) :=
  pe_imp (pe_callB call_isi hg hm boot_isinstance (pa_cons he (pa_cons hc pa_nil h2) h1) (by decide) (by decide) h1 hpl) fun σ H Q ⟨E, M, Q', sl, rm, h, k⟩ => by
    refine ⟨E, M, _, sl, rm, h, fun v H1 d M1 t1 rm1 r1 q1 => ?_⟩
    obtain ⟨t, q, ty⟩ := ty_rep q1 rm1 r1
    refine ⟨v, .ty c.nm, .type t.nm, .type c.nm, isTy t c, rfl, .ty _, ty, kit_ty (kit_all t c), ?_⟩
    have q2 : Q' (.bl (isTy t c || false)) M1 := q
    rw [Bool.or_false] at q2
    exact (k.tx t1).now rm1 (.bl _) q2
theorem re_isi2 (a b : Ty) {x1} (he : RE X e de) (hc : PE X c1 (tC (.ty a.nm))) (hd : PE X c2 (tC (.ty b.nm))) (hg : Gl X "isinstance") (hm : X.mg "isinstance" = none)
    (h1 : starEach [e, .Tuple [c1, c2] x1 p2] X.env = (false, eval e X.env) :: starEach [.Tuple [c1, c2] x1 p2] X.env := by rfl) (h2 : starEach [.Tuple [c1, c2] x1 p2] X.env = (false, eval (.Tuple [c1, c2] x1 p2) X.env) :: starEach [] X.env := by rfl)
    (h3 : starEach [c1, c2] X.env = (false, eval c1 X.env) :: starEach [c2] X.env := by rfl) (h4 : starEach [c2] X.env = (false, eval c2 X.env) :: starEach [] X.env := by rfl) (hpl : (backTo pos (starEach [.Tuple [c1, c2] x1 p2] X.env)).any (·.1) = false := by rfl) :
    RE X (.Call (.Name "isinstance" p) [e, .Tuple [c1, c2] x1 p2] [] pos) (dIs [a, b] de) :=
  pe_imp (pe_callB call_isiT hg hm boot_isinstance (pa_cons he (pa_cons (pe_tup (pa_cons hc (pa_cons hd pa_nil h4) h3)) pa_nil h2) h1) (by decide) (by decide) h1 hpl) fun σ H Q ⟨E, M, Q', sl, rm, h, k⟩ => by
    refine ⟨E, M, _, sl, rm, h, fun v H1 d M1 t1 rm1 r1 q1 => ⟨by show 2 ≤ sizeLine; decide, fun p hp => ?_⟩⟩
    obtain ⟨t, q, ty⟩ := ty_rep (M := M1) (K := X.K) (w := X.w) (H := upd H1 p (.tup [.ty a.nm, .ty b.nm])) (x := d) (q := fun t => Q' (.bl ([a, b].any (isTy t))) M1) q1 (rm1.keepNew hp) (r1.mono (Tx.new hp))
    refine ⟨v, p, [.ty a.nm, .ty b.nm], .type t.nm, [.type a.nm, .type b.nm], isTy t a || (isTy t b || false), rfl, upd_same, .cons (.ty _) (.cons (.ty _) .nil), ty, ?_, ?_⟩
    · refine kitAny_cons (kit_ty (kit_all t a)) (fun h => ?_) (fun h => by rw [h]; rfl)
      rw [h, Bool.false_or]
      refine kitAny_cons (kit_ty (kit_all t b)) (fun h => ?_) (fun h => by rw [h]; rfl)
      rw [h]
      exact kitAny_nil
    · exact k _ _ _ _ (t1.trans (Tx.new hp)) (rm1.keepNew hp) (.bl _) q
end

/-! ### methods -/
def dApp (do_ de : DE) : DE := fun E M Q => do_ E M fun o M1 => match o with
  | .ref a => (∃ ds, M1 a = some (.lst ds)) ∧ de E M1 fun d M2 => ∃ ds, M2 a = some (.lst ds) ∧ ds.length < sizeLine ∧ Q .non (updM M2 a (.lst (ds ++ [d])))
  | _ => False
section
variable {X : Cx} {o e f : Expr} {do_ de df : DE} {apos cpos : Pos}
theorem re_append (ho : RE X o do_) (he : RE X e de)
    (hbase : attributeBase o "append" X.env (eval o X.env) = eval o X.env := by rfl)
    (hfew : ((backTo cpos (starEach [e] X.env)).all (fun x => !x.1) && (backToKw cpos (keywordEach [] X.env)).all (fun x => x.1.isSome)
      && decide (([e] : List Expr).length + ([] : List Keyword).length + (if ([] : List Keyword).isEmpty then 0 else 1) < 30)) = true := by rfl)
    (hline : (apos.endLine == cpos.line) = true := by rfl) (hs : starEach [e] X.env = (false, eval e X.env) :: starEach [] X.env := by rfl) (hplain : (backTo cpos (starEach [] X.env)).any (·.1) = false := by rfl) :
    RE X (.Call (.Attribute o "append" apos) [e] [] cpos) (dApp do_ de) :=
  pe_imp (pe_bm PySem.F.plainAttrs_list PySem.F.slot_list_append PySem.F.type_list_append mt_append ho (pa_cons he pa_nil hs) hbase hfew hline hs hplain) fun σ H Q ⟨E, M, Q', sl, rm, h, k⟩ => by
    refine ⟨E, M, _, sl, rm, h, fun v H1 d M1 t1 rm1 r1 q1 => ?_⟩
    split at q1
    · obtain ⟨⟨ds, h1⟩, h2⟩ := q1
      obtain ⟨xs, e1, _⟩ := rm1 _ _ h1
      rw [r1.inv_ref]
      refine ⟨.inl ⟨rfl, xs, SqL.of e1⟩, E, M1, _, sl.mono t1, rm1, h2, fun u H2 d2 M2 t2 rm2 r2 q2 => ?_⟩
      obtain ⟨ds2, h3, h4, h5⟩ := q2
      obtain ⟨ys, e2, l2⟩ := rm2 _ _ h3
      refine ⟨_, ys, u, rfl, rfl, e2, by rw [l2.length]; exact h4, ?_⟩
      have tm : Tx X.K H2 (upd H2 _ (.lst (ys ++ [u]))) := Tx.mut e2 trivial
      exact k _ _ _ _ ((t1.trans t2).trans tm) (rm2.upd (mo := .lst (ds2 ++ [d2])) tm ⟨_, upd_same, (l2.append (.one r2)).mono tm⟩) .non h5
    · exact q1.elim
end
end DH

set_option Elab.async false
set_option linter.all false
set_option autoImplicit false
set_option maxRecDepth 100000
set_option maxHeartbeats 2000000
/-! Deep readings: tests, statements, targets, loops, comprehensions. -/
namespace DH
open PySem PySem.Spec PyProof.Rows L2
/-! ### tests -/
/-- a value's truth -/
def truM (x : D) (M : Mm) (q : Bool → Prop) : Prop := match x with
  | .bl b => q b
  | .non => q false
  | .int i => q (i != 0)
  | .str y => y.length ≤ sizeLine ∧ q ((y.length : Int) != 0)
  | .tup ds => q (!ds.isEmpty)
  | .ref a => (∃ ds, IsL M a ds ∧ q (!ds.isEmpty)) ∨ ∃ kvs, M a = some (.dk kvs) ∧ q (!kvs.isEmpty)
  | _ => False
def dtE (de : DE) : DT := fun E M Q => de E M fun d M1 => truM d M1 fun b => Q b M1
def dtB (de : DE) : DT := fun E M Q => de E M fun d M1 => match d with
  | .bl b => Q b M1
  | _ => False
def dtNot (t : DT) : DT := fun E M Q => t E M fun b M1 => Q (!b) M1
def dtAnd (t u : DT) : DT := fun E M Q => t E M fun b M1 => (b = true → u E M1 Q) ∧ (b = false → Q false M1)
def dtOr (t u : DT) : DT := fun E M Q => t E M fun b M1 => (b = true → Q true M1) ∧ (b = false → u E M1 Q)
def dNotV (de : DE) : DE := fun E M Q => de E M fun d M1 => match d with
  | .bl b => Q (.bl (!b)) M1
  | _ => False
def dAndV (da db : DE) : DE := fun E M Q => da E M fun d M1 => match d with
  | .bl b => (b = true → db E M1 Q) ∧ (b = false → Q (.bl false) M1)
  | _ => False
def dChain (o o' : D2) (da db dc : DE) : DE := fun E M Q => da E M fun x M1 => db E M1 fun y M2 => o x y M2 fun z M3 => match z with
  | .bl b => (b = true → dc E M3 fun u M4 => o' y u M4 Q) ∧ (b = false → Q (.bl false) M3)
  | _ => False
section
variable {X : Cx} {a b c e : Expr} {da db dc de : DE} {t u : DT} {pos : Pos} {rest : List Expr}
theorem empty_len {α β : Type} {xs : List α} {ys : List β} (h : xs.length = ys.length) : xs.isEmpty = ys.isEmpty := by
  cases xs <;> cases ys <;> first | rfl | cases h
theorem tru_rep {K : PySem.W.Frag} {w : World} {H : Hp} {M : Mm} {x : D} {v : V} {q : Bool → Prop} (h : truM x M q) (rm : Rm K w H M) (r : Rep K w H x v) : ∃ k, TruV K v H k ∧ q k := by
  unfold truM at h
  split at h
  · rw [r.inv_bl]; exact ⟨_, rfl, h⟩
  · rw [r.inv_non]; exact ⟨_, rfl, h⟩
  · rw [r.inv_int]; exact ⟨_, rfl, h⟩
  · rw [r.inv_str]; exact ⟨_, ⟨h.1, rfl⟩, h.2⟩
  · obtain ⟨p, xs, rfl, sq, l⟩ := r.inv_tup
    exact ⟨_, .inr (.inl ⟨xs, sq, rfl⟩), by rw [empty_len l.length]; exact h⟩
  · rw [r.inv_ref]
    rcases h with ⟨ds, h1, h2⟩ | ⟨kvs, h1, h2⟩
    · obtain ⟨xs, sq, l⟩ := h1.sq rm
      exact ⟨_, .inl ⟨xs, sq, rfl⟩, by rw [empty_len l.length]; exact h2⟩
    · obtain ⟨gs, e, rf⟩ := rm _ _ h1
      exact ⟨_, .inr (.inr ⟨gs, e, rfl⟩), by rw [empty_len rf.length]; exact h2⟩
  · exact h.elim
theorem rt_val (h : RE X e de) (he : ∀ whole, isTrue e X.env whole = (do let v ← whole; standAt e.pos; holding [v] (truthy v)) := by intro _; rfl) : RT X e (dtE de) :=
  pt_imp (pt_truth h he) fun σ H Q ⟨E, M, Q', sl, rm, h, k⟩ => ⟨E, M, _, sl, rm, h, fun v H1 d M1 t1 rm1 r1 q1 => by
    obtain ⟨b, h1, h2⟩ := tru_rep q1 rm1 r1
    exact ⟨b, h1, k _ _ _ t1 rm1 h2⟩⟩
theorem rt_cmp {op : CmpOp} {r : R2} {o : D2} (ho : OpR X (compareOp op) r) (hr : R2R X.K X.w r o) (ha : RE X a da) (hb : RE X b db) (hm : behindInMarks op b = false) : RT X (.Compare a [op] [b] pos) (dtB (dOp o da db)) :=
  pt_imp (pt_cmpR ho ha hb hm) fun σ H Q ⟨E, M, Q', sl, rm, h, k⟩ => tD_op hr ⟨E, M, _, sl, rm, h, fun v H1 d M1 t1 rm1 r1 q1 => by
    split at q1
    · rename_i b; exact ⟨b, r1.inv_bl, k _ _ _ t1 rm1 q1⟩
    · exact q1.elim⟩
theorem tD_chain {K : PySem.W.Frag} {w : World} {r r' : R2} {o o' : D2} (hr : R2R K w r o) (hr' : R2R K w r' o') {σ : L2.St} {H : Hp} {Q : VK} (h : tD K w (dChain o o' da db dc) σ H Q) : tChain r r' (tD K w da) (tD K w db) (tD K w dc) σ H Q := by
  obtain ⟨E, M, Q', sl, rm, h, k⟩ := h
  refine ⟨E, M, _, sl, rm, h, fun v H1 d M1 t1 rm1 r1 q1 => ⟨E, M1, _, sl.mono t1, rm1, q1, fun v2 H2 d2 M2 t2 rm2 r2 q2 => ?_⟩⟩
  refine hr _ _ _ _ _ _ _ _ rm2 (r1.mono t2) r2 q2 fun v3 H3 d3 M3 t3 rm3 r3 q3 => ?_
  split at q3
  · rename_i b
    refine ⟨b, r3.inv_bl, ?_⟩
    have k3 := ((k.tx t1).tx t2).tx t3
    cases b with
    | true =>
      refine ⟨E, M3, _, ((sl.mono t1).mono t2).mono t3, rm3, q3.1 rfl, fun v4 H4 d4 M4 t4 rm4 r4 q4 => ?_⟩
      exact hr' _ _ _ _ _ _ _ _ rm4 ((r2.mono t3).mono t4) r4 q4 (k3.tx t4)
    | false => exact k3.now rm3 (.bl _) (q3.2 rfl)
  · exact q3.elim
theorem re_chain {op op' : CmpOp} {r r' : R2} {o o' : D2} (ho : OpR X (compareOp op) r) (hr : R2R X.K X.w r o) (ho' : OpR X (compareOp op') r') (hr' : R2R X.K X.w r' o') (ha : RE X a da) (hb : RE X b db) (hc : RE X c dc)
    (hm : lastMarks [op, op'] [b, c] = false := by with_unfolding_all rfl) : RE X (.Compare a [op, op'] [b, c] pos) (dChain o o' da db dc) := pe_imp (pe_chain ho ho' ha hb hc hm) fun σ H Q h => tD_chain hr hr' h
theorem rt_chain {op op' : CmpOp} {r r' : R2} {o o' : D2} (ho : OpR X (compareOp op) r) (hr : R2R X.K X.w r o) (ho' : OpR X (compareOp op') r') (hr' : R2R X.K X.w r' o') (ha : RE X a da) (hb : RE X b db) (hc : RE X c dc)
    (hm : lastMarks [op, op'] [b, c] = false := by with_unfolding_all rfl) : RT X (.Compare a [op, op'] [b, c] pos) (dtB (dChain o o' da db dc)) :=
  pt_imp (pt_chain ho ho' ha hb hc hm) fun σ H Q ⟨E, M, Q', sl, rm, h, k⟩ => tD_chain hr hr' ⟨E, M, _, sl, rm, h, fun v H1 d M1 t1 rm1 r1 q1 => by
    split at q1
    · rename_i b; exact ⟨b, r1.inv_bl, k _ _ _ t1 rm1 q1⟩
    · exact q1.elim⟩
theorem rt_not (h : RT X a t) : RT X (.UnaryOp .Not a pos) (dtNot t) := pt_imp (pt_not h) fun σ H Q ⟨E, M, Q', sl, rm, h, k⟩ => ⟨E, M, _, sl, rm, h, fun b H1 M1 t1 rm1 q1 => k _ _ _ t1 rm1 q1⟩
theorem rw_and1 (h : RT X a t) : RW X (.BoolOp .And [a] pos) t := pw_and1 h
theorem rw_or1 (h : RT X a t) : RW X (.BoolOp .Or [a] pos) t := pw_or1 h
theorem rw_and (ha : RT X a t) (hb : RW X (.BoolOp .And (b :: rest) pos) u) : RW X (.BoolOp .And (a :: b :: rest) pos) (dtAnd t u) := pw_imp (pw_and ha hb) fun σ H Q ⟨E, M, Q', sl, rm, h, k⟩ =>
  ⟨E, M, _, sl, rm, h, fun b H1 M1 t1 rm1 q1 => by
    cases b with
    | true => exact ⟨E, M1, _, sl.mono t1, rm1, q1.1 rfl, fun b H2 M2 t2 rm2 q2 => k _ _ _ (t1.trans t2) rm2 q2⟩
    | false => exact k _ _ _ t1 rm1 (q1.2 rfl)⟩
theorem rw_or (ha : RT X a t) (hb : RW X (.BoolOp .Or (b :: rest) pos) u) : RW X (.BoolOp .Or (a :: b :: rest) pos) (dtOr t u) := pw_imp (pw_or ha hb) fun σ H Q ⟨E, M, Q', sl, rm, h, k⟩ =>
  ⟨E, M, _, sl, rm, h, fun b H1 M1 t1 rm1 q1 => by
    cases b with
    | false => exact ⟨E, M1, _, sl.mono t1, rm1, q1.2 rfl, fun b H2 M2 t2 rm2 q2 => k _ _ _ (t1.trans t2) rm2 q2⟩
    | true => exact k _ _ _ t1 rm1 (q1.1 rfl)⟩
theorem re_one {op} (h : RE X a da) : RE X (.BoolOp op [a] pos) da := pe_one h
theorem re_not (h : RE X a da) : RE X (.UnaryOp .Not a pos) (dNotV da) := pe_imp (pe_not h) fun σ H Q ⟨E, M, Q', sl, rm, h, k⟩ => ⟨E, M, _, sl, rm, h, fun v H1 d M1 t1 rm1 r1 q1 => by
  split at q1
  · rename_i b; exact ⟨b, r1.inv_bl, (k.tx t1).now rm1 (.bl _) q1⟩
  · exact q1.elim⟩
theorem re_and (ha : RE X a da) (hb : RE X (.BoolOp .And (b :: rest) pos) db) : RE X (.BoolOp .And (a :: b :: rest) pos) (dAndV da db) := pe_imp (pe_and ha hb) fun σ H Q ⟨E, M, Q', sl, rm, h, k⟩ => ⟨E, M, _, sl, rm, h, fun v H1 d M1 t1 rm1 r1 q1 => by
  split at q1
  · rename_i b
    refine ⟨b, r1.inv_bl, ?_⟩
    cases b with
    | true => exact ⟨E, M1, _, sl.mono t1, rm1, q1.1 rfl, k.tx t1⟩
    | false => exact (k.tx t1).now rm1 (.bl _) (q1.2 rfl)
  · exact q1.elim⟩
end

/-! ### statements -/
def dNext : DS := fun D E M => D.nx E M
def dSeq (t u : DS) : DS := fun D E M => t { D with nx := u D } E M
def dDrop (de : DE) : DS := fun D E M => de E M fun _ M1 => D.nx E M1
def dRet (de : DE) : DS := fun D E M => de E M D.rt
def dIf (t : DT) (a b : DS) : DS := fun D E M => t E M fun c M1 => (c = true → a D E M1) ∧ (c = false → b D E M1)
section
variable {X : Cx} {st : Stmt} {rest : List Stmt} {t u : DS} {e : Expr} {de : DE} {pos : Pos}
theorem rss_nil : RSs X [] dNext := fun W tk => pss_imp pss_nil fun D σ H ⟨E, M, D', sl, rm, h, k⟩ => k.nx _ _ _ _ (Tx.refl H) sl rm h
theorem rss_cons (h1 : RS X st t) (h2 : RSs X rest u) : RSs X (st :: rest) (dSeq t u) := fun W tk => pss_imp (pss_cons (h1 W tk) (h2 W tk)) fun D σ H ⟨E, M, D', sl, rm, h, k⟩ =>
  ⟨E, M, _, sl, rm, h, ⟨fun σ' H' E' M' t sl' rm' q => ⟨E', M', D', sl', rm', q, k.tx t⟩, k.rt, k.bk, k.ct, k.xc⟩⟩
theorem rss_one (h1 : RS X st t) : RSs X [st] t := fun W tk => pss_one (h1 W tk)
theorem rs_expr (he : RE X e de) (hs : swapsWith e none pos.line X.env = pure false := by rfl) : RS X (.Expr e pos) (dDrop de) := fun W tk => ps_imp (ps_expr he hs) fun D σ H ⟨E, M, D', sl, rm, h, k⟩ =>
  ⟨E, M, _, sl, rm, h, fun v H1 d M1 t1 rm1 r1 q1 => k.nx _ _ _ _ t1 (sl.mono t1) rm1 q1⟩
theorem rs_ret (he : RE X e de) : RS X (.Return (some e) pos) (dRet de) := fun W tk => ps_imp (ps_ret he) fun D σ H ⟨E, M, D', sl, rm, h, k⟩ => ⟨E, M, _, sl, rm, h, k.rt⟩
theorem rs_if {c : Expr} {a b : List Stmt} {tc : DT} (hc : RT X c tc) (ha : RSs X a t) (hb : RSs X b u) : RS X (.If c a b pos) (dIf tc t u) := fun W tk => ps_imp (ps_if hc (ha W tk) (hb W tk)) fun D σ H ⟨E, M, D', sl, rm, h, k⟩ =>
  ⟨E, M, _, sl, rm, h, fun v H1 M1 t1 rm1 q1 => by
    cases v with
    | true => exact ⟨E, M1, D', sl.mono t1, rm1, q1.1 rfl, k.tx t1⟩
    | false => exact ⟨E, M1, D', sl.mono t1, rm1, q1.2 rfl, k.tx t1⟩⟩
end

/-! ### targets: a name, a row of names -/
inductive Tg where
  | nm (i : Nat) | tp (is : List Nat)
def setE (E : DEnv) : List Nat → List D → DEnv
  | i :: is, d :: ds => setE (E.set i (some d)) is ds
  | _, _ => E
def setσ (σ : L2.St) : List Nat → List V → L2.St
  | i :: is, d :: ds => setσ (σ.set i (some d)) is ds
  | _, _ => σ
def Tg.ls : Tg → List Nat
  | .nm i => [i]
  | .tp is => is
def dTg (g : Tg) (d : D) (E : DEnv) (Q : DEnv → Prop) : Prop := match g, d with
  | .nm i, d => Q (E.set i (some d))
  | .tp is, .tup ds => ds.length = is.length ∧ Q (setE E is ds)
  | _, _ => False
/-- a target's rule above the heap, and what it tells of the slots -/
structure PTg (X : Cx) (target : Expr) (g : Tg) (tg : TG) : Prop where
  pg : PG X target tg
  to : ∀ (d : D) (E : DEnv) (Q : DEnv → Prop) (v : V) (σ : L2.St) (H : Hp) (P : L2.St → Hp → Prop), dTg g d E Q → Sl X.K X.w H σ E → Rep X.K X.w H d v → (∀ E' xs, Sl X.K X.w H (setσ σ g.ls xs) E' → Q E' → P (setσ σ g.ls xs) H) → tg v σ H P
def gNames : List Nat → TGs
  | [] => gNil
  | i :: is => gCons (gName i) (gNames is)
theorem gNames_to {H : Hp} {P : L2.St → Hp → Prop} : ∀ {is : List Nat} {xs : List V} {σ : L2.St}, xs.length = is.length → P (setσ σ is xs) H → gNames is xs σ H P
  | [], [], _, _, h => ⟨rfl, h⟩
  | [], _ :: _, _, e, _ => by cases e
  | _ :: _, [], _, e, _ => by cases e
  | i :: is, x :: xs, σ, e, h => ⟨x, xs, rfl, gNames_to (is := is) (xs := xs) (σ := σ.set i (some x)) (by simpa using e) h⟩
theorem Sl.sets {K : PySem.W.Frag} {w : World} {H : Hp} : ∀ {is : List Nat} {ds : List D} {xs : List V} {σ : L2.St} {E : DEnv}, RepL K w H ds xs → Sl K w H σ E → Sl K w H (setσ σ is xs) (setE E is ds)
  | [], _, _, _, _, _, s => by
    cases ‹RepL K w H _ _› <;> exact s
  | i :: is, _, _, _, _, .nil, s => s
  | i :: is, _, _, _, _, .cons r l, s => Sl.sets (is := is) l (s.set r i)
section
variable {X : Cx} {pos : Pos}
theorem ptg_name {i : Nat} {x : Str} (h : PG X (.Name x pos) (gName i)) : PTg X (.Name x pos) (.nm i) (gName i) := ⟨h, fun d E Q v σ H P h sl r k => k _ [v] (sl.set r i) h⟩
theorem ptg_tup {es : List Expr} {kk : Nat} {is : List Nat} (hc : X.calm = true) (h : PGs X es (gNames is)) (hl : es.length = is.length)
    (hn : (assignEach es X.env).length = is.length := by rfl) (hst : (assignEach es X.env).findIdx? (·.1) = none := by rfl) : PTg X (.Tuple es kk pos) (.tp is) (gTup X.K is.length (gNames is)) :=
  ⟨pg_tup hc h hn hst, fun d E Q v σ H P h sl r k => by
    cases d with
    | tup ds =>
      have h : ds.length = is.length ∧ Q (setE E is ds) := h
      obtain ⟨a, xs, rfl, sq, l⟩ := r.inv_tup
      exact ⟨a, xs, rfl, sq, l.length.trans h.1, gNames_to (l.length.trans h.1) (k _ xs (Sl.sets l sl) h.2)⟩
    | _ => exact False.elim h⟩
end
def dAsg (de : DE) (g : Tg) : DS := fun D E M => de E M fun d M1 => dTg g d E fun E' => D.nx E' M1
section
variable {X : Cx} {pos : Pos} {e : Expr} {de : DE}
theorem asg_to {g : Tg} {target : Expr} {tg : TG} (p : PTg X target g tg) {W : WX} {D : Ends} {σ : L2.St} {H : Hp} (h : tsD X.K X.w W (dAsg de g) D σ H) : tAsg (tD X.K X.w de) tg D σ H := by
  obtain ⟨E, M, D', sl, rm, h, k⟩ := h
  exact ⟨E, M, _, sl, rm, h, fun v H1 d M1 t1 rm1 r1 q1 => p.to d E _ v σ H1 _ q1 (sl.mono t1) r1 fun E' xs sl' q => k.nx _ _ _ _ t1 sl' rm1 q⟩
theorem rs_set {i : Nat} {x : Str} {pos' : Pos} (hN : X.N.Nodup) (hi : X.N[i]? = some x) (hx : Loc X.env.scope x) (he : RE X e de) (hs : swapsWith e (some (.Name x pos')) pos.line X.env = pure false := by rfl) (hf : X.fn x = true ∨ X.env.scope.names.lookup x = some .local := by first | exact .inl rfl | exact .inr rfl | assumption) :
    RS X (.Assign [.Name x pos'] e pos) (dAsg de (.nm i)) := fun W tk => ps_imp (ps_set hN hi hx he hs hf) fun D σ H h => asg_to (ptg_name (pos := pos') (pg_name hN hi hx hf)) h
theorem rs_asg {target : Expr} {g : Tg} {tg : TG} (he : RE X e de) (p : PTg X target g tg) (hs : swapsWithSole [target] e pos.line X.env = pure false := by rfl) (hw : swappedStores [target] e X.env = pure none := by rfl)
    (h1 : (assignEach [target] X.env).map (·.2) = [assign target X.env] := by rfl) : RS X (.Assign [target] e pos) (dAsg de g) := fun W tk => ps_imp (ps_asg he p.pg hs hw h1) fun D σ H h => asg_to p h
end
/-- o[i] = v -/
def dSetIx (dv do_ di : DE) : DS := fun D E M => dv E M fun v M1 => do_ E M1 fun o M2 => di E M2 fun i M3 => match o with
  | .ref a => (∃ ds k j, M3 a = some (.lst ds) ∧ i = .int k ∧ ixN ds.length k = some j ∧ D.nx E (updM M3 a (.lst (ds.set j v)))) ∨ ∃ kvs k, M3 a = some (.dk kvs) ∧ isKeyD i = some k ∧ kvs.length < sizeLine ∧ D.nx E (updM M3 a (.dk (putD kvs k v)))
  | _ => False
section
variable {X : Cx} {o i v : Expr} {do_ di dv : DE} {pos pos' : Pos}
/-- the store by values: a list or a dict -/
def rSetA : TSet := fun o i v H Q => rSetL o i v H Q ∨ ∃ a H', o = .ref a ∧ DPut H a i v H' ∧ Q H'
theorem set_all (hu : X.A.units + 1 < cLine) : PSet X rSetA := fun pins s σ H o i v ov iv u Q I ro ri rv h => by
  rcases h with h | ⟨a, H', rfl, h, q⟩
  · exact set_list pins s σ H o i v ov iv u Q I ro ri rv h
  · cases (show ov = Value.ref a from ro)
    exact d_setItem hu I h ri rv fun s' I' => ⟨H', I', q⟩
theorem rs_setIx (hu : X.A.units + 1 < cLine) (ho : RE X o do_) (hi : RE X i di) (hv : RE X v dv)
    (ha : ∀ u, assign (.Subscript o i pos') X.env u = (do
      let ov ← holding [u] (eval o X.env)
      let iv ← holding [u, ov] (eval i X.env)
      standAt pos'
      holding [u, ov, iv] (setItem ov iv u)
      release [u, ov, iv] []) := by intro _; rfl)
    (hs : swapsWithSole [.Subscript o i pos'] v pos.line X.env = pure false := by rfl) (hw : swappedStores [.Subscript o i pos'] v X.env = pure none := by rfl)
    (h1 : (assignEach [.Subscript o i pos'] X.env).map (·.2) = [assign (.Subscript o i pos') X.env] := by rfl) : RS X (.Assign [.Subscript o i pos'] v pos) (dSetIx dv do_ di) :=
  fun W tk => ps_imp (ps_asg hv (pg_sub ho hi (set_all hu) ha) hs hw h1) fun D σ H ⟨E, M, D', sl, rm, h, k⟩ => by
    refine ⟨E, M, _, sl, rm, h, fun x H1 d M1 t1 rm1 r1 q1 => ⟨E, M1, _, sl.mono t1, rm1, q1, fun y H2 d2 M2 t2 rm2 r2 q2 => ⟨E, M2, _, (sl.mono t1).mono t2, rm2, q2, fun z H3 d3 M3 t3 rm3 r3 q3 => ?_⟩⟩⟩
    split at q3
    · rename_i a
      have t123 := t1.trans (t2.trans t3)
      rw [(r2.mono t3).inv_ref]
      rcases q3 with ⟨ds, kk, j, h1, h2, h3, h4⟩ | ⟨kvs, kk, h1, h2, h3, h4⟩
      · obtain ⟨xs, e, l⟩ := rm3 _ _ h1
        subst h2
        have tm : Tx X.K H3 (upd H3 a (.lst (xs.set j x))) := Tx.mut e trivial
        refine .inl ⟨a, xs, kk, j, rfl, r3.inv_int, e, by rw [l.length]; exact h3, ?_⟩
        exact k.nx _ _ _ _ (t123.trans tm) (((((sl.mono t1).mono t2).mono t3)).mono tm) (rm3.upd (mo := .lst (ds.set j d)) tm ⟨_, upd_same, (RepL.set ((r1.mono t2).mono t3) j l).mono tm⟩) h4
      · obtain ⟨gs, e, rf⟩ := rm3 _ _ h1
        have ex := isKeyD_eq h2
        subst ex
        rw [keyD_rep r3]
        have tm : Tx X.K H3 (upd H3 a (.dK (putK gs kk x))) := Tx.mut e trivial
        refine .inr ⟨a, _, rfl, DPut.k e (by rw [rf.length]; exact h3), ?_⟩
        exact k.nx _ _ _ _ (t123.trans tm) (((((sl.mono t1).mono t2).mono t3)).mono tm) (rm3.upd (mo := .dk (putD kvs kk d)) tm ⟨_, upd_same, (rf.put kk ((r1.mono t2).mono t3)).mono tm⟩) h4
    · exact q3.elim
end
end DH

set_option Elab.async false
set_option linter.all false
set_option autoImplicit false
set_option maxRecDepth 100000
set_option maxHeartbeats 2000000
/-! Deep readings: what is walked, for, comprehensions, dict displays. -/
namespace DH
open PySem PySem.Spec PyProof.Rows L2
abbrev DI := DEnv → Mm → (List D → (Mm → Prop) → Mm → Prop) → Prop
/-- an iterator above the heap H0 that yields ds while stay -/
def ItOk (K : PySem.W.Frag) (w : World) (H0 : Hp) (J : It) (ds : List D) (stay : Mm → Prop) : Prop := ∀ (i : Nat) (H : Hp) (M : Mm), Tx K H0 H → Rm K w H M → stay M →
  (∀ d, ds[i]? = some d → J.go i H ∧ ∀ x H', J.yld i H x H' → Tx K H H' ∧ Rm K w H' M ∧ Rep K w H' d x) ∧ (i = ds.length → J.stop i H)
def tiD (K : PySem.W.Frag) (w : World) (di : DI) : TI := fun σ H R => ∃ E M Q', Sl K w H σ E ∧ Rm K w H M ∧ di E M Q' ∧ ∀ J H' ds stay M', Tx K H H' → Rm K w H' M' → ItOk K w H' J ds stay → Q' ds stay M' → R J H'
abbrev RI (X : Cx) (tg iter : Expr) (di : DI) : Prop := PI X tg iter (tiD X.K X.w di)
section
variable {K : PySem.W.Frag} {w : World} {H : Hp}
theorem it_list {a : Addr} {ds : List D} : ItOk K w H (Itl K a) ds (fun M => IsL M a ds) := fun i H' M t rm st => by
  obtain ⟨xs, sq, l⟩ := st.sq rm
  refine ⟨fun d e => ?_, fun e => ⟨xs, sq, by rw [l.length, e]; exact Nat.le_refl _⟩⟩
  obtain ⟨x, e1, r⟩ := l.get e
  refine ⟨⟨xs, x, sq, e1⟩, fun y H2 h => ?_⟩
  obtain ⟨rfl, h⟩ := h
  have q := h xs sq
  rw [e1] at q; cases q
  exact ⟨Tx.refl _, rm, r⟩
theorem it_tup {a : Addr} {ds : List D} {xs : List V} (sq : SqT K H a xs) (l : RepL K w H ds xs) : ItOk K w H (Itt K a) ds (fun _ => True) := fun i H' M t rm st => by
  refine ⟨fun d e => ?_, fun e => ⟨xs, t.t _ _ sq, by rw [l.length, e]; exact Nat.le_refl _⟩⟩
  obtain ⟨x, e1, r⟩ := l.get e
  refine ⟨⟨xs, x, t.t _ _ sq, e1⟩, fun y H2 h => ?_⟩
  obtain ⟨rfl, h⟩ := h
  have q := h xs (t.t _ _ sq)
  rw [e1] at q; cases q
  exact ⟨Tx.refl _, rm, r.mono t⟩
def strD (z : Str) : List D := z.cps.toList.map fun c => .str ⟨#[c]⟩
theorem it_str {z : Str} : ItOk K w H (Its z) (strD z) (fun _ => True) := fun i H' M t rm st => by
  unfold strD
  refine ⟨fun d e => ?_, fun e => ?_⟩
  · rw [List.getElem?_map] at e
    obtain ⟨c, e1, e2⟩ := Option.map_eq_some_iff.mp e
    subst e2
    have hi := (List.getElem?_eq_some_iff.mp e1).1
    refine ⟨(by simpa using hi : i < z.cps.size), fun y H2 h => ?_⟩
    obtain ⟨rfl, c', e3, rfl⟩ := h
    have e4 : z.cps.toList[i]? = some c' := by simpa using e3
    rw [e1] at e4; cases e4
    exact ⟨Tx.refl _, rm, .str _⟩
  · show z.cps.size ≤ i
    rw [e, List.length_map]; simp
def rngD (lo : Int) (n : Nat) : List D := (List.range n).map fun i => .int (lo + (i : Nat))
theorem it_rng {lo : Int} {n : Nat} : ItOk K w H (Itr lo n) (rngD lo n) (fun _ => True) := fun i H' M t rm st => by
  unfold rngD
  refine ⟨fun d e => ?_, fun e => ?_⟩
  · rw [List.getElem?_map] at e
    obtain ⟨c, e1, e2⟩ := Option.map_eq_some_iff.mp e
    subst e2
    have hi := (List.getElem?_eq_some_iff.mp e1).1
    rw [List.length_range] at hi
    rw [List.getElem?_range hi] at e1; cases e1
    refine ⟨hi, fun y H2 h => ?_⟩
    obtain ⟨rfl, rfl⟩ := h
    exact ⟨Tx.refl _, rm, .int _⟩
  · show n ≤ i
    rw [e, List.length_map, List.length_range]; exact Nat.le_refl _
end
/-- the walk over a value -/
def dIter (de : DE) : DI := fun E M Q => de E M fun d M1 => match d with
  | .tup ds => Q ds (fun _ => True) M1
  | .str z => Q (strD z) (fun _ => True) M1
  | .ref a => ∃ ds, IsL M1 a ds ∧ Q ds (fun M => IsL M a ds) M1
  | _ => False
def dRng1 (da : DA) : DI := fun E M Q => da E M fun ds M1 => match ds with
  | [.int j] => -(2 ^ 62) ≤ j ∧ j < 2 ^ 62 ∧ Q (rngD 0 j.toNat) (fun _ => True) M1
  | _ => False
def dRng2 (da : DA) : DI := fun E M Q => da E M fun ds M1 => match ds with
  | [.int i, .int j] => (-(2 ^ 62) ≤ i ∧ i < 2 ^ 62 ∧ -(2 ^ 62) ≤ j ∧ j < 2 ^ 62) ∧ Q (rngD i (j - i).toNat) (fun _ => True) M1
  | _ => False
section
variable {X : Cx} {tg e : Expr} {de : DE} {p pos : Pos}
/-- what a value is walked by -/
def itV (K : PySem.W.Frag) (v : V) (H : Hp) (R : It → Hp → Prop) : Prop :=
  (∃ a xs, v = .ref a ∧ SqT K H a xs ∧ R (Itt K a) H) ∨ (∃ x, v = .str x ∧ R (Its x) H) ∨ ∃ a xs, v = .ref a ∧ SqL K H a xs ∧ R (Itl K a) H
def iVal (K : PySem.W.Frag) (te : TE) : TI := fun σ H R => te σ H fun v H1 => itV K v H1 R
theorem pi_val {te : TE} (he : PE X e te) : PI X tg e (iVal X.K te) := by
  refine ⟨fun pins s σ H R I h => ?_⟩
  refine thn (he.run pins s σ H _ I h) fun v s1 ⟨y, H1, I1, r1, q⟩ => ?_
  rcases q with ⟨a, xs, rfl, sq, q⟩ | ⟨x, rfl, q⟩ | ⟨a, xs, rfl, sq, q⟩
  · cases r1
    obtain ⟨its, rv, pt, hz⟩ := I1.tuple sq
    exact wpAny_pyIter_tuple (show s1.heap.IsTuple a its.toArray from pt) (pi_one (tk := s1.toks) I1 _ (turn_tuple a _) ⟨_, Heap.get?_push_size _ rfl, rfl, rfl⟩ q)
  · obtain ⟨t, rfl⟩ := r1
    cases ha : x.cps.all (· < 128) with
    | false => exact wpAny_pyIter_wide ha (pi_one (tk := s1.toks) I1 _ (turn_str _ x t "str_iterator" (.inr rfl)) ⟨_, Heap.get?_push_size _ rfl, rfl, rfl⟩ q)
    | true => exact wpAny_pyIter_ascii ha (pi_one (tk := s1.toks) I1 _ (turn_str _ x t "str_ascii_iterator" (.inl rfl)) ⟨_, Heap.get?_push_size _ rfl, rfl, rfl⟩ q)
  · cases r1
    obtain ⟨its, rv, pt, hz⟩ := I1.list sq
    exact wpAny_pyIter_list pt.isList (pi_one (tk := s1.toks) I1 _ (turn_list a _) ⟨_, Heap.get?_push_size _ rfl, rfl, rfl⟩ q)
theorem ri_val (he : RE X e de) : RI X tg e (dIter de) := pi_imp (pi_val he) fun σ H R ⟨E, M, Q', sl, rm, h, k⟩ =>
  ⟨E, M, _, sl, rm, h, fun v H' d M' t rm' r q => by
    split at q
    · obtain ⟨a, xs, rfl, sq, l⟩ := r.inv_tup
      exact .inl ⟨a, xs, rfl, sq, k _ _ _ _ _ t rm' (it_tup sq l) q⟩
    · exact .inr (.inl ⟨_, r.inv_str, k _ _ _ _ _ t rm' it_str q⟩)
    · obtain ⟨ds, h1, h2⟩ := q
      obtain ⟨xs, sq, l⟩ := h1.sq rm'
      exact .inr (.inr ⟨_, xs, r.inv_ref, sq, k _ _ _ _ _ t rm' it_list h2⟩)
    · exact q.elim⟩
theorem ri_rng1 {a : Expr} {da : DA} (hg : Gl X "range") (hm : X.mg "range" = none) (ha : RA X [a] da) (hs : starEach [a] X.env = [(false, eval a X.env)] := by rfl) : RI X tg (.Call (.Name "range" p) [a] [] pos) (dRng1 da) :=
  pi_imp (pi_range1 hg hm ha hs) fun σ H R ⟨E, M, Q', sl, rm, h, k⟩ => ⟨E, M, _, sl, rm, h, fun vs H' ds M' t rm' r q => by
    split at q
    · obtain ⟨v, rfl, rr⟩ := r.inv1
      rw [rr.inv_int]
      exact ⟨_, rfl, q.1, q.2.1, k _ _ _ _ _ t rm' it_rng q.2.2⟩
    · exact q.elim⟩
theorem ri_rng2 {a b : Expr} {da : DA} (hg : Gl X "range") (hm : X.mg "range" = none) (ha : RA X [a, b] da) (hs : starEach [a, b] X.env = [(false, eval a X.env), (false, eval b X.env)] := by rfl) (hs2 : starEach [b] X.env = [(false, eval b X.env)] := by rfl) : RI X tg (.Call (.Name "range" p) [a, b] [] pos) (dRng2 da) :=
  pi_imp (pi_range2 hg hm ha hs hs2) fun σ H R ⟨E, M, Q', sl, rm, h, k⟩ => ⟨E, M, _, sl, rm, h, fun vs H' ds M' t rm' r q => by
    split at q
    · obtain ⟨v, u, rfl, rr, r2⟩ := r.inv2
      rw [rr.inv_int, r2.inv_int]
      exact ⟨_, _, rfl, q.1, k _ _ _ _ _ t rm' it_rng q.2⟩
    · exact q.elim⟩
end

/-! ### for -/
def dFor (di : DI) (g : Tg) (db : DS) : DS := fun D E M => di E M fun ds stay M1 => ∃ I : Nat → DEnv → Mm → Prop, I 0 E M1 ∧ (∀ i E M, I i E M → stay M) ∧
  (∀ i E M d, ds[i]? = some d → I i E M → dTg g d E fun E2 => db { nx := I (i + 1), rt := D.rt, bk := D.nx, ct := I (i + 1), xc := D.xc } E2 M) ∧ ∀ E M, I ds.length E M → D.nx E M
theorem rs_for {X : Cx} {target iter : Expr} {body : List Stmt} {di : DI} {g : Tg} {tg : TG} {db : DS} {pos : Pos} (hp : PassesOwn (model X.prog X.w) X.A X.env X.xe) (hc : X.calm = true) (hi : RI X target iter di) (hg : PTg X target g tg) (hb : RSs X body db)
    (hs : ∀ x, foldedSetIterable iter X.env x = pure x := by intro _; rfl) : RS X (.For target iter body [] pos) (dFor di g db) :=
  fun W tk => ps_imp (ps_for hp hc hi hg.pg (hb W tk) hs) fun D σ H ⟨E, M, D', sl, rm, h, k⟩ => by
    refine ⟨E, M, _, sl, rm, h, fun J H1 ds stay M1 t1 rm1 ok q => ?_⟩
    obtain ⟨I, i0, ist, turn, fin⟩ := q
    refine ⟨fun i m σ' H' => ∃ E' M', m = ds.length - i ∧ i ≤ ds.length ∧ Tx X.K H1 H' ∧ Sl X.K X.w H' σ' E' ∧ Rm X.K X.w H' M' ∧ I i E' M', ⟨_, E, M1, rfl, Nat.zero_le _, Tx.refl _, sl.mono t1, rm1, i0⟩, ?_⟩
    rintro i m σ' H' ⟨E', M', rfl, hi, t', sl', rm', iv⟩
    have it := ok i H' M' t' rm' (ist i E' M' iv)
    by_cases hlt : i < ds.length
    · obtain ⟨go, yl⟩ := it.1 ds[i] (List.getElem?_eq_getElem hlt)
      refine .inr ⟨go, fun σ2 H2 => ∃ E2 M2, Tx X.K H1 H2 ∧ Sl X.K X.w H2 σ2 E2 ∧ Rm X.K X.w H2 M2 ∧ I (i + 1) E2 M2, fun σ2 H2 ⟨E2, M2, a, b, c, d⟩ => ⟨ds.length - (i + 1), by omega, E2, M2, rfl, hlt, a, b, c, d⟩, fun x H2 y => ?_⟩
      obtain ⟨t2, rm2, r2⟩ := yl x H2 y
      refine hg.to ds[i] E' _ x σ' H2 _ (turn i E' M' _ (List.getElem?_eq_getElem hlt) iv) (sl'.mono t2) r2 fun E3 xs sl3 q3 => ?_
      have tt : Tx X.K H1 H2 := t'.trans t2
      exact ⟨E3, M', _, sl3, rm2, q3, ⟨fun σ4 H4 E4 M4 t4 sl4 rm4 q4 => ⟨E4, M4, tt.trans t4, sl4, rm4, q4⟩, fun v H4 d M4 t4 rm4 r4 q4 => k.rt _ _ _ _ (t1.trans (tt.trans t4)) rm4 r4 q4, fun σ4 H4 E4 M4 t4 sl4 rm4 q4 => k.nx _ _ _ _ (t1.trans (tt.trans t4)) sl4 rm4 q4, fun σ4 H4 E4 M4 t4 sl4 rm4 q4 => ⟨E4, M4, tt.trans t4, sl4, rm4, q4⟩, fun cls d σ4 H4 E4 M4 t4 sl4 rm4 q4 => k.xc _ _ _ _ _ _ (t1.trans (tt.trans t4)) sl4 rm4 q4⟩⟩
    · have e : i = ds.length := by omega
      exact .inl ⟨it.2 e, k.nx _ _ _ _ (t1.trans t') sl' rm' (fin E' M' (by rw [← e]; exact iv))⟩

/-! ### while -/
/-! ### comprehensions -/
theorem wipe_put {i : Nat} {o : Option V} : ∀ {vs : List Nat} {σ : L2.St}, i ∉ vs → wipe (σ.set i o) vs = (wipe σ vs).set i o
  | [], _, _ => rfl
  | v :: vs, σ, h => by
    have h1 : i ≠ v := fun e => h (List.mem_cons.mpr (.inl e))
    have h2 : i ∉ vs := fun e => h (List.mem_cons.mpr (.inr e))
    show (wipe (σ.set i o) vs).set v none = ((wipe σ vs).set v none).set i o
    rw [wipe_put h2, List.set_comm _ _ h1]
theorem wipe_set {i : Nat} {o : Option V} : ∀ {vs : List Nat} {σ : L2.St}, i ∈ vs → wipe (σ.set i o) vs = wipe σ vs
  | [], _, h => by cases h
  | v :: vs, σ, h => by
    show (wipe (σ.set i o) vs).set v none = (wipe σ vs).set v none
    by_cases e : i ∈ vs
    · rw [wipe_set e]
    · have hv : v = i := by
        rcases List.mem_cons.mp h with q | q
        · exact q.symm
        · exact absurd q e
      subst hv
      rw [wipe_put e, List.set_set]
theorem wipe_idem {vs : List Nat} {σ : L2.St} : ∀ {ws : List Nat}, (∀ i ∈ ws, i ∈ vs) → wipe (wipe σ ws) vs = wipe σ vs
  | [], _ => rfl
  | v :: ws, h => by
    show wipe ((wipe σ ws).set v none) vs = wipe σ vs
    rw [wipe_set (h v List.mem_cons_self), wipe_idem fun i hi => h i (List.mem_cons_of_mem _ hi)]
theorem wipe_sets {vs : List Nat} : ∀ {is : List Nat} {xs : List V} {σ : L2.St}, (∀ i ∈ is, i ∈ vs) → wipe (setσ σ is xs) vs = wipe σ vs
  | [], _, _, _ => rfl
  | _ :: _, [], _, _ => rfl
  | i :: is, x :: xs, σ, h => by
    show wipe (setσ (σ.set i (some x)) is xs) vs = wipe σ vs
    rw [wipe_sets fun j hj => h j (List.mem_cons_of_mem _ hj), wipe_set (h i List.mem_cons_self)]
def dYes : DT := fun _ M Q => Q true M
def dLc (di : DI) (g : Tg) (t : DT) (de : DE) (vs : List Nat) : DE := fun E M Q => di E M fun ds stay M1 => ∀ p, M1 p = none → ∃ I : Nat → List D → Mm → Prop, I 0 [] (updM M1 p (.lst [])) ∧ (∀ i acc M, I i acc M → stay M) ∧
  (∀ i acc M d, ds[i]? = some d → I i acc M → dTg g d (wipeD E vs) fun E2 => t E2 M fun b M3 => (b = true → de E2 M3 fun y M4 => M4 p = some (.lst acc) ∧ acc.length < sizeLine ∧ I (i + 1) (acc ++ [y]) (updM M4 p (.lst (acc ++ [y])))) ∧ (b = false → I (i + 1) acc M3)) ∧
  ∀ acc M, I ds.length acc M → Q (.ref p) M
/-- the test of a comprehension's clause -/
structure RTs (X : Cx) (ifs : List Expr) (t : DT) : Prop where
  pt : PTs X ifs (ttD X.K X.w t)
theorem rts_nil {X : Cx} : RTs X [] dYes := ⟨⟨fun pins s σ H Q I ⟨E, M, Q', sl, rm, h, k⟩ => pts_nil.run pins s σ H Q I (k _ _ _ (Tx.refl _) rm h)⟩⟩
theorem rts_one {X : Cx} {c : Expr} {t : DT} (h : RT X c t) : RTs X [c] t := ⟨pts_one h⟩
theorem lc_to {K : PySem.W.Frag} {w : World} {di : DI} {g : Tg} {tg : TG} {t : DT} {de : DE} {vs : List Nat} (hv : ∀ i ∈ g.ls, i ∈ vs)
    (hg : ∀ (d : D) (E : DEnv) (Q : DEnv → Prop) (v : V) (σ : L2.St) (H : Hp) (P : L2.St → Hp → Prop), dTg g d E Q → Sl K w H σ E → Rep K w H d v → (∀ E' xs, Sl K w H (setσ σ g.ls xs) E' → Q E' → P (setσ σ g.ls xs) H) → tg v σ H P)
    {σ : L2.St} {H : Hp} {Q : VK} (h : tD K w (dLc di g t de vs) σ H Q) : tLc (tiD K w di) tg (ttD K w t) (tD K w de) vs σ H Q := by
  obtain ⟨E, M, Q', sl, rm, h, k⟩ := h
  refine ⟨E, M, _, sl, rm, h, fun J H1 ds stay M1 t1 rm1 ok q => fun p hp => ?_⟩
  obtain ⟨I, i0, ist, turn, fin⟩ := q p (rm1.free hp)
  refine ⟨fun i m H' => ∃ acc M', m = ds.length - i ∧ i ≤ ds.length ∧ Tx K H1 H' ∧ Rm K w H' M' ∧ I i acc M', ⟨_, [], _, rfl, Nat.zero_le _, Tx.new hp, rm1.upd (mo := .lst []) (Tx.new hp) ⟨[], upd_same, .nil⟩, i0⟩, ?_⟩
  rintro i m H' ⟨acc, M', rfl, hi, t', rm', iv⟩
  have it := ok i H' M' t' rm' (ist i acc M' iv)
  by_cases hlt : i < ds.length
  · obtain ⟨go, yl⟩ := it.1 ds[i] (List.getElem?_eq_getElem hlt)
    refine .inr ⟨go, fun H2 => ∃ acc2 M2, Tx K H1 H2 ∧ Rm K w H2 M2 ∧ I (i + 1) acc2 M2, fun H2 ⟨acc2, M2, a, b, c⟩ => ⟨ds.length - (i + 1), by omega, acc2, M2, rfl, hlt, a, b, c⟩, fun x H2 y => ?_⟩
    obtain ⟨t2, rm2, r2⟩ := yl x H2 y
    refine hg ds[i] (wipeD E vs) _ x (wipe σ vs) H2 _ (turn i acc M' _ (List.getElem?_eq_getElem hlt) iv) ((((sl.mono t1).mono t').mono t2).wipe vs) r2 fun E3 xs sl3 q3 => ⟨?_, ?_⟩
    · rw [wipe_sets hv, wipe_idem fun i hi => hi]
    · have tt : Tx K H1 H2 := t'.trans t2
      refine ⟨E3, M', _, sl3, rm2, q3, fun b H4 M4 t4 rm4 q4 => ?_⟩
      cases b with
      | true =>
        refine ⟨E3, M4, _, sl3.mono t4, rm4, q4.1 rfl, fun v H5 d M5 t5 rm5 r5 q5 => ?_⟩
        obtain ⟨h1, h2, h3⟩ := q5
        obtain ⟨us, e, l⟩ := rm5 _ _ h1
        have tm : Tx K H5 (upd H5 p (.lst (us ++ [v]))) := Tx.mut e trivial
        exact ⟨us, e, by rw [l.length]; exact h2, _, _, tt.trans (t4.trans (t5.trans tm)), rm5.upd (mo := .lst (acc ++ [d])) tm ⟨_, upd_same, (l.append (.one r5)).mono tm⟩, h3⟩
      | false => exact ⟨_, _, tt.trans t4, rm4, q4.2 rfl⟩
  · have e : i = ds.length := by omega
    exact .inl ⟨it.2 e, k _ _ _ _ (t1.trans t') rm' (.ref p) (fin acc M' (by rw [← e]; exact iv))⟩
section
variable {X : Cx} {elt tg iter : Expr} {ifs : List Expr} {scope : Scope} {own : List (Str × Nat)} {pos : Pos} {di : DI} {g : Tg} {tG : TG} {t : DT} {de : DE}
theorem re_lc (hc : X.calm = true) (hN : X.N.Nodup) (hi : RI X tg iter di) (ok : BlkOk X.N X.env.scope scope own) (hv : ∀ i ∈ g.ls, i ∈ own.map (·.2))
    (hg : ∀ (s : Shared) (H : Hp) (C : Addr) (cl : List (Str × Addr)) (fp : List Addr), PTg (X.blk s H scope (compEnvC scope cl C X.env) fp) tg g tG)
    (ht : ∀ (s : Shared) (H : Hp) (C : Addr) (cl : List (Str × Addr)) (fp : List Addr), RTs (X.blk s H scope (compEnvC scope cl C X.env) fp) ifs t)
    (he : ∀ (s : Shared) (H : Hp) (C : Addr) (cl : List (Str × Addr)) (fp : List Addr), RE (X.blk s H scope (compEnvC scope cl C X.env) fp) elt de)
    (hs : ∀ x, foldedSetIterable iter X.env x = pure x := by intro _; rfl) : RE X (.ListComp elt [⟨tg, iter, ifs, 0⟩] scope pos) (dLc di g t de (own.map (·.2))) :=
  pe_imp (pe_lc hc hN hi ok (fun s H C cl fp => (hg s H C cl fp).pg) (fun s H C cl fp => (ht s H C cl fp).pt) he hs) fun σ H Q h => by
    refine lc_to hv (fun d E Q v σ H P => ?_) h
    exact (hg {} H 0 [] []).to d E Q v σ H P
theorem rs_setLc {i : Nat} {y : Str} {py spos : Pos} (hc : X.calm = true) (hN : X.N.Nodup) (hy : X.N[i]? = some y) (hyl : X.env.scope.names.lookup y = some .local)
    (hsw : swapsWith (.ListComp elt [⟨tg, iter, ifs, 0⟩] scope pos) (some (.Name y py)) spos.line X.env = pure true) (hi : RI X tg iter di) (ok : BlkOk X.N X.env.scope scope own) (hv : ∀ i ∈ g.ls, i ∈ own.map (·.2))
    (hg : ∀ (s : Shared) (H : Hp) (C : Addr) (cl : List (Str × Addr)) (fp : List Addr), PTg (X.blk s H scope (compEnvC scope cl C X.env) fp) tg g tG)
    (ht : ∀ (s : Shared) (H : Hp) (C : Addr) (cl : List (Str × Addr)) (fp : List Addr), RTs (X.blk s H scope (compEnvC scope cl C X.env) fp) ifs t)
    (he : ∀ (s : Shared) (H : Hp) (C : Addr) (cl : List (Str × Addr)) (fp : List Addr), RE (X.blk s H scope (compEnvC scope cl C X.env) fp) elt de)
    (hs : ∀ x, foldedSetIterable iter X.env x = pure x := by intro _; rfl) : RS X (.Assign [.Name y py] (.ListComp elt [⟨tg, iter, ifs, 0⟩] scope pos) spos) (dAsg (dLc di g t de (own.map (·.2))) (.nm i)) :=
  fun W tk => ps_imp (ps_setLc hc hN hy hyl hsw hi ok (fun s H C cl fp => (hg s H C cl fp).pg) (fun s H C cl fp => (ht s H C cl fp).pt) he hs) fun D σ H ⟨E, M, D', sl, rm, h, k⟩ => by
    refine lc_to (Q := fun x H1 => gName i x σ H1 D.nx) hv (fun d E Q v σ H P => ?_) ⟨E, M, _, sl, rm, h, fun v H1 d M1 t1 rm1 r1 q1 => k.nx _ _ _ _ t1 ((sl.mono t1).set r1 i) rm1 q1⟩
    exact (hg {} H 0 [] []).to d E Q v σ H P
end
end DH

set_option Elab.async false
set_option linter.all false
set_option autoImplicit false
set_option maxRecDepth 100000
set_option maxHeartbeats 2000000
/-! Deep readings: comprehensions with two clauses, dict displays. -/
namespace DH
open PySem PySem.Spec PyProof.Rows L2
def dLc2 (di : DI) (g : Tg) (t : DT) (di1 : DI) (g1 : Tg) (t1 : DT) (de : DE) (vs vs1 : List Nat) : DE := fun E M Q => di E M fun ds stay M1 => ∀ p, M1 p = none → ∃ I : Nat → List D → Mm → Prop, I 0 [] (updM M1 p (.lst [])) ∧ (∀ i acc M, I i acc M → stay M) ∧
  (∀ i acc M d, ds[i]? = some d → I i acc M → dTg g d (wipeD E vs) fun E2 => t E2 M fun b M3 => (b = false → I (i + 1) acc M3) ∧ (b = true → di1 E2 M3 fun ds1 stay1 M4 => ∃ J : Nat → List D → Mm → Prop, J 0 acc M4 ∧ (∀ j acc M, J j acc M → stay1 M) ∧
    (∀ j acc M d1, ds1[j]? = some d1 → J j acc M → dTg g1 d1 (wipeD E2 vs1) fun E3 => t1 E3 M fun b M5 => (b = true → de E3 M5 fun y M6 => M6 p = some (.lst acc) ∧ acc.length < sizeLine ∧ J (j + 1) (acc ++ [y]) (updM M6 p (.lst (acc ++ [y])))) ∧ (b = false → J (j + 1) acc M5)) ∧
    ∀ acc M, J ds1.length acc M → I (i + 1) acc M)) ∧
  ∀ acc M, I ds.length acc M → Q (.ref p) M
def TgTo (K : PySem.W.Frag) (w : World) (g : Tg) (tg : TG) : Prop := ∀ (d : D) (E : DEnv) (Q : DEnv → Prop) (v : V) (σ : L2.St) (H : Hp) (P : L2.St → Hp → Prop), dTg g d E Q → Sl K w H σ E → Rep K w H d v → (∀ E' xs, Sl K w H (setσ σ g.ls xs) E' → Q E' → P (setσ σ g.ls xs) H) → tg v σ H P
theorem lc2_to {K : PySem.W.Frag} {w : World} {di di1 : DI} {g g1 : Tg} {tg tg1 : TG} {t tt1 : DT} {de : DE} {vs vs1 : List Nat} (hv : ∀ i ∈ g.ls, i ∈ vs) (hv1 : ∀ i ∈ g1.ls, i ∈ vs1) (hg : TgTo K w g tg) (hg1 : TgTo K w g1 tg1)
    {σ : L2.St} {H : Hp} {Q : VK} (h : tD K w (dLc2 di g t di1 g1 tt1 de vs vs1) σ H Q) : tLc2 (tiD K w di) tg (ttD K w t) (tiD K w di1) tg1 (ttD K w tt1) (tD K w de) vs vs1 σ H Q := by
  obtain ⟨E, M, Q', sl, rm, h, k⟩ := h
  refine ⟨E, M, _, sl, rm, h, fun J H1 ds stay M1 t1 rm1 ok q => fun p hp => ?_⟩
  obtain ⟨I, i0, ist, turn, fin⟩ := q p (rm1.free hp)
  refine ⟨fun i m H' => ∃ acc M', m = ds.length - i ∧ i ≤ ds.length ∧ Tx K H1 H' ∧ Rm K w H' M' ∧ I i acc M', ⟨_, [], _, rfl, Nat.zero_le _, Tx.new hp, rm1.upd (mo := .lst []) (Tx.new hp) ⟨[], upd_same, .nil⟩, i0⟩, ?_⟩
  rintro i m H' ⟨acc, M', rfl, hi, t', rm', iv⟩
  have it := ok i H' M' t' rm' (ist i acc M' iv)
  by_cases hlt : i < ds.length
  · obtain ⟨go, yl⟩ := it.1 ds[i] (List.getElem?_eq_getElem hlt)
    refine .inr ⟨go, fun H2 => ∃ acc2 M2, Tx K H1 H2 ∧ Rm K w H2 M2 ∧ I (i + 1) acc2 M2, fun H2 ⟨acc2, M2, a, b, c⟩ => ⟨ds.length - (i + 1), by omega, acc2, M2, rfl, hlt, a, b, c⟩, fun x H2 y => ?_⟩
    obtain ⟨t2, rm2, r2⟩ := yl x H2 y
    refine hg ds[i] (wipeD E vs) _ x (wipe σ vs) H2 _ (turn i acc M' _ (List.getElem?_eq_getElem hlt) iv) ((((sl.mono t1).mono t').mono t2).wipe vs) r2 fun E3 xs sl3 q3 => ⟨?_, ?_⟩
    · rw [wipe_sets hv, wipe_idem fun i hi => hi]
    · have tt : Tx K H1 H2 := t'.trans t2
      refine ⟨E3, M', _, sl3, rm2, q3, fun b H4 M4 t4 rm4 q4 => ?_⟩
      cases b with
      | false => exact ⟨_, _, tt.trans t4, rm4, q4.1 rfl⟩
      | true =>
        refine ⟨E3, M4, _, sl3.mono t4, rm4, q4.2 rfl, fun J1 H5 ds1 stay1 M5 t5 rm5 ok1 q5 => ?_⟩
        obtain ⟨Ji, j0, jst, jturn, jfin⟩ := q5
        refine ⟨fun j m H' => ∃ acc M', m = ds1.length - j ∧ j ≤ ds1.length ∧ Tx K H5 H' ∧ Rm K w H' M' ∧ Ji j acc M', ⟨_, acc, M5, rfl, Nat.zero_le _, Tx.refl _, rm5, j0⟩, ?_⟩
        rintro j m H6 ⟨acc6, M6, rfl, hj, t6, rm6, jv⟩
        have it1 := ok1 j H6 M6 t6 rm6 (jst j acc6 M6 jv)
        have tb := tt.trans (t4.trans (t5.trans t6))
        by_cases hl1 : j < ds1.length
        · obtain ⟨go1, yl1⟩ := it1.1 ds1[j] (List.getElem?_eq_getElem hl1)
          refine .inr ⟨go1, fun H2 => ∃ acc2 M2, Tx K H5 H2 ∧ Rm K w H2 M2 ∧ Ji (j + 1) acc2 M2, fun H2 ⟨acc2, M2, a, b, c⟩ => ⟨ds1.length - (j + 1), by omega, acc2, M2, rfl, hl1, a, b, c⟩, fun x7 H7 y7 => ?_⟩
          obtain ⟨t7, rm7, r7⟩ := yl1 x7 H7 y7
          refine hg1 ds1[j] (wipeD E3 vs1) _ x7 (wipe (setσ (wipe σ vs) g.ls xs) vs1) H7 _ (jturn j acc6 M6 _ (List.getElem?_eq_getElem hl1) jv) (((((sl3.mono t4).mono t5).mono t6).mono t7).wipe vs1) r7 fun E8 xs8 sl8 q8 => ⟨?_, ?_⟩
          · rw [wipe_sets hv1, wipe_idem fun i hi => hi]
          · refine ⟨E8, M6, _, sl8, rm7, q8, fun b9 H9 M9 t9 rm9 q9 => ?_⟩
            have tc : Tx K H5 H9 := t6.trans (t7.trans t9)
            cases b9 with
            | true =>
              refine ⟨E8, M9, _, sl8.mono t9, rm9, q9.1 rfl, fun v Ha d Ma ta rma ra qa => ?_⟩
              obtain ⟨h1, h2, h3⟩ := qa
              obtain ⟨us, e, l⟩ := rma _ _ h1
              have tm : Tx K Ha (upd Ha p (.lst (us ++ [v]))) := Tx.mut e trivial
              exact ⟨us, e, by rw [l.length]; exact h2, _, _, tc.trans (ta.trans tm), rma.upd (mo := .lst (acc6 ++ [d])) tm ⟨_, upd_same, (l.append (.one ra)).mono tm⟩, h3⟩
            | false => exact ⟨_, _, tc, rm9, q9.2 rfl⟩
        · have e : j = ds1.length := by omega
          exact .inl ⟨it1.2 e, _, _, tb, rm6, jfin acc6 M6 (by rw [← e]; exact jv)⟩
  · have e : i = ds.length := by omega
    exact .inl ⟨it.2 e, k _ _ _ _ (t1.trans t') rm' (.ref p) (fin acc M' (by rw [← e]; exact iv))⟩
section
variable {X : Cx} {elt tg iter tg1 iter1 : Expr} {ifs ifs1 : List Expr} {scope : Scope} {own : List (Str × Nat)} {pos : Pos} {di di1 : DI} {g g1 : Tg} {tG tG1 : TG} {t t1 : DT} {de : DE} {vs1 : List Nat}
abbrev Xb (X : Cx) (scope : Scope) (s : Shared) (H : Hp) (C : Addr) (cl : List (Str × Addr)) (fp : List Addr) : Cx := X.blk s H scope (compEnvC scope cl C X.env) fp
theorem rs_setLc2 {i : Nat} {y : Str} {py spos : Pos} (hc : X.calm = true) (hN : X.N.Nodup) (hy : X.N[i]? = some y) (hyl : X.env.scope.names.lookup y = some .local)
    (hsw : swapsWith (.ListComp elt [⟨tg, iter, ifs, 0⟩, ⟨tg1, iter1, ifs1, 0⟩] scope pos) (some (.Name y py)) spos.line X.env = pure true) (hi : RI X tg iter di) (ok : BlkOk X.N X.env.scope scope own) (hv : ∀ i ∈ g.ls, i ∈ own.map (·.2)) (hv1 : ∀ i ∈ vs1, i ∈ own.map (·.2)) (hv2 : ∀ i ∈ g1.ls, i ∈ vs1)
    (hg : ∀ s H C cl fp, PTg (Xb X scope s H C cl fp) tg g tG) (ht : ∀ s H C cl fp, RTs (Xb X scope s H C cl fp) ifs t)
    (hi1 : ∀ s H C cl fp, RI (Xb X scope s H C cl fp) tg1 iter1 di1) (hg1 : ∀ s H C cl fp, PTg (Xb X scope s H C cl fp) tg1 g1 tG1) (ht1 : ∀ s H C cl fp, RTs (Xb X scope s H C cl fp) ifs1 t1)
    (he : ∀ s H C cl fp, RE (Xb X scope s H C cl fp) elt de)
    (hs : ∀ x, foldedSetIterable iter X.env x = pure x := by intro _; rfl) (hs1 : ∀ env x, foldedSetIterable iter1 env x = pure x := by intro _ _; rfl) :
    RS X (.Assign [.Name y py] (.ListComp elt [⟨tg, iter, ifs, 0⟩, ⟨tg1, iter1, ifs1, 0⟩] scope pos) spos) (dAsg (dLc2 di g t di1 g1 t1 de (own.map (·.2)) vs1) (.nm i)) :=
  fun W tk => ps_imp (ps_setLc2 hc hN hy hyl hsw hi ok hv1 (fun s H C cl fp => (hg s H C cl fp).pg) (fun s H C cl fp => (ht s H C cl fp).pt) hi1 (fun s H C cl fp => (hg1 s H C cl fp).pg) (fun s H C cl fp => (ht1 s H C cl fp).pt) he hs hs1) fun D σ H ⟨E, M, D', sl, rm, h, k⟩ =>
    lc2_to (Q := fun x H1 => gName i x σ H1 D.nx) hv hv2 (fun d E Q v σ H P => (hg {} H 0 [] []).to d E Q v σ H P) (fun d E Q v σ H P => (hg1 {} H 0 [] []).to d E Q v σ H P) ⟨E, M, _, sl, rm, h, fun v H1 d M1 t1 rm1 r1 q1 => k.nx _ _ _ _ t1 ((sl.mono t1).set r1 i) rm1 q1⟩
end

/-! ### dict displays -/
def dPairs : List (DE × DE) → DEnv → Mm → (List (D × D) → Mm → Prop) → Prop
  | [], _, M, Q => Q [] M
  | (dk, dv) :: r, E, M, Q => dk E M fun x M1 => dv E M1 fun y M2 => dPairs r E M2 fun ps M3 => Q ((x, y) :: ps) M3
def mergeD (kvs more : List (Key × D)) : List (Key × D) := more.foldl (fun acc kv => putD acc kv.1 kv.2) kvs
def dDisp (ps : List (DE × DE)) : DE := fun E M Q => ∀ p, M p = none → dPairs ps E (updM M p (.dk [])) fun prs M2 => M2 p = some (.dk []) ∧ ∃ kvs : List (Key × D), prs = kvs.map (fun kv => (keyD kv.1, kv.2)) ∧ kvs.length ≤ 15 ∧ Q (.ref p) (updM M2 p (.dk (mergeD [] kvs)))
/-- rows of pairs -/
inductive RepP (K : PySem.W.Frag) (w : World) (H : Hp) : List (D × D) → List (V × V) → Prop
  | nil : RepP K w H [] []
  | cons {a b : D} {x y : V} {r : List (D × D)} {s : List (V × V)} : Rep K w H a x → Rep K w H b y → RepP K w H r s → RepP K w H ((a, b) :: r) ((x, y) :: s)
section
variable {K : PySem.W.Frag} {w : World}
theorem RepP.mono {H H' : Hp} (t : Tx K H H') : ∀ {r : List (D × D)} {s : List (V × V)}, RepP K w H r s → RepP K w H' r s
  | _, _, .nil => .nil
  | _, _, .cons a b l => .cons (a.mono t) (b.mono t) (RepP.mono t l)
theorem pairs_to : ∀ {ps : List (DE × DE)} {E : DEnv} {M : Mm} {Q' : List (D × D) → Mm → Prop} {σ : L2.St} {H : Hp} {Q : List (V × V) → Hp → Prop}, Sl K w H σ E → Rm K w H M → dPairs ps E M Q' →
    (∀ prs H' ds M', Tx K H H' → Rm K w H' M' → RepP K w H' ds prs → Q' ds M' → Q prs H') → tPairs (ps.map fun p => (tD K w p.1, tD K w p.2)) σ H Q
  | [], E, M, Q', σ, H, Q, sl, rm, h, k => k _ _ _ _ (Tx.refl _) rm .nil h
  | (dk, dv) :: r, E, M, Q', σ, H, Q, sl, rm, h, k => by
    refine ⟨E, M, _, sl, rm, h, fun v H1 d M1 t1 rm1 r1 q1 => ⟨E, M1, _, sl.mono t1, rm1, q1, fun u H2 d2 M2 t2 rm2 r2 q2 => ?_⟩⟩
    exact pairs_to ((sl.mono t1).mono t2) rm2 q2 fun prs H3 ds M3 t3 rm3 r3 q3 => k _ _ _ _ (t1.trans (t2.trans t3)) rm3 (.cons ((r1.mono t2).mono t3) (r2.mono t3) r3) q3
theorem repP_keys {H : Hp} : ∀ {kvs : List (Key × D)} {prs : List (V × V)}, RepP K w H (kvs.map fun kv => (keyD kv.1, kv.2)) prs → ∃ gs : List (Key × V), prs = gs.map (fun kv => (kV kv.1, kv.2)) ∧ RepF K w H kvs gs
  | [], _, .nil => ⟨[], rfl, .nil⟩
  | (k, d) :: r, _, .cons a b l => by
    obtain ⟨gs, rfl, rf⟩ := repP_keys l
    exact ⟨(k, _) :: gs, by rw [keyD_rep a]; rfl, .cons b rf⟩
theorem RepF.merge {H : Hp} : ∀ {more : List (Key × D)} {gs : List (Key × V)} {kvs : List (Key × D)} {ks : List (Key × V)}, RepF K w H more gs → RepF K w H kvs ks → RepF K w H (mergeD kvs more) (mergeK ks gs)
  | _, _, _, _, .nil, r => r
  | _, _, _, _, .cons (k := k) h l, r => by
    have q := RepF.merge l (r.put k h)
    exact q
end
section
variable {X : Cx} {pos : Pos}
theorem re_disp {keys : List (Option Expr)} {values : List Expr} {ps : List (DE × DE)} (h : PPs X pos keys values (ps.map fun p => (tD X.K X.w p.1, tD X.K X.w p.2))) (hall : keys.all (·.isSome) = true) (hl : keys.length = values.length) (h0 : keys ≠ [])
    (h15 : keys.length ≤ 15) : RE X (.Dict keys values pos) (dDisp ps) := pe_imp (pe_disp h hall hl h0 h15) fun σ H Q ⟨E, M, Q', sl, rm, h, k⟩ p hp => by
  have t0 : Tx X.K H (upd H p (.dK [])) := Tx.new hp
  refine pairs_to (sl.mono t0) (rm.upd (mo := .dk []) t0 ⟨[], upd_same, .nil⟩) (h p (rm.free hp)) fun prs H2 ds M2 t2 rm2 r2 q2 => ?_
  obtain ⟨h1, kvs, rfl, h3, h4⟩ := q2
  obtain ⟨gs, rfl, rf⟩ := repP_keys r2
  obtain ⟨ks, e, r0⟩ := rm2 _ _ h1
  cases r0
  have tm : Tx X.K H2 (upd H2 p (.dK (mergeK [] gs))) := Tx.mut e trivial
  refine ⟨e, gs, rfl, by rw [rf.length]; exact h3, ?_⟩
  exact k _ _ _ _ (t0.trans (t2.trans tm)) (rm2.upd (mo := .dk (mergeD [] kvs)) tm ⟨_, upd_same, (rf.merge .nil).mono tm⟩) (.ref p) h4
end
end DH
namespace DH
open PySem PySem.Spec PyProof.Rows L2
/-! ### callees by name -/
abbrev Xf (P : Program) (w : World) (K : PySem.W.Frag) (mg : Str → Option Value) (base : Heap) (N : List Str) (qual : Str) (scope : Scope) (f : Addr) (cdv : Value) (A : Around) (outer : List Env) (s : Shared) (H : Hp) (E : XK) : Cx := (cxOf CX0 P w K mg base N qual scope f cdv A outer s H E).nox
/-- a def of the top that keeps the promise sp with k levels -/
structure Cal (P : Program) (w : World) (K : PySem.W.Frag) (mg : Str → Option Value) (base : Heap) (k : Nat) (x : Str) (ps : List Str) (sp : DSp) : Prop where
  ex : ∃ f fd, FnOk P w K mg base CX0 k f fd ps (spD K w sp) ∧ mg x = some (.ref f) ∧ PySem.W.keepIn K (.ref f) = true ∧ Binds K fd ps []
theorem Cal.mono {P : Program} {w : World} {K : PySem.W.Frag} {mg : Str → Option Value} {base : Heap} {j k : Nat} {x : Str} {ps : List Str} {sp : DSp} (C : Cal P w K mg base j x ps sp) (h : j ≤ k) : Cal P w K mg base k x ps sp :=
  let ⟨f, fd, F, r⟩ := C.ex; ⟨f, fd, F.mono h, r⟩
theorem Cal.imp {P : Program} {w : World} {K : PySem.W.Frag} {mg : Str → Option Value} {base : Heap} {k : Nat} {x : Str} {ps : List Str} {sp sp' : DSp} (C : Cal P w K mg base k x ps sp) (h : ∀ ds M Q E, sp' ds M Q E → sp ds M Q E) : Cal P w K mg base k x ps sp' :=
  let ⟨f, fd, F, r⟩ := C.ex; ⟨f, fd, F.imp fun vs H Q E ⟨ds, M, Q', E', a, b, c, d⟩ => ⟨ds, M, Q', E', a, b, h _ _ _ _ c, d⟩, r⟩
/-- a def as the top has it -/
def Top (K : PySem.W.Frag) (mg : Str → Option Value) (x : Str) (st : Stmt) : Prop := ∃ f fd, FunD K x x (defArgs st) (defBody st) (defScope st) [] [] f fd ∧ mg x = some (.ref f)
section
variable {X : Cx} {pos : Pos}
theorem re_cal {k : Nat} {x : Str} {ps : List Str} {sp : DSp} {p : Pos} {e : Expr} {es : List Expr} {dr : DA} (C : Cal X.prog X.w X.K X.mg X.base k x ps sp) (hr : Room k X.A) (ha : RA X (e :: es) dr) (hg : Gl X x := by rfl) (hdb : (x == ("__debug__" : Str)) = false := by decide)
    (he : starEach (e :: es) X.env = (false, eval e X.env) :: starEach es X.env := by rfl) (hpl : (backTo pos (starEach es X.env)).any (·.1) = false := by rfl) : RE X (.Call (.Name x p) (e :: es) [] pos) (dCall sp dr) :=
  let ⟨_, _, F, hm, hk, hb⟩ := C.ex; re_call F hr hg hm hk hb pass0 ha hdb he hpl
theorem re_gint {x : Str} {i : Int} (h : ∃ t, X.mg x = some (.int i t)) (hg : Gl X x := by rfl) (hd : (x == ("__debug__" : Str)) = false := by decide) : RE X (.Name x pos) (dC (.int i)) :=
  let ⟨t, e⟩ := h; re_c (pe_glob (v := .int i) hg e ⟨t, rfl⟩ hd) fun _ => .int i
theorem re_gstr {x z : Str} (h : ∃ t, X.mg x = some (.str z t)) (hg : Gl X x := by rfl) (hd : (x == ("__debug__" : Str)) = false := by decide) : RE X (.Name x pos) (dC (.str z)) :=
  let ⟨t, e⟩ := h; re_c (pe_glob (v := .str z) hg e ⟨t, rfl⟩ hd) fun _ => .str z
theorem re_gkd {x : Str} {kvs : List (Str × D)} (h : ∃ a, X.mg x = some (.ref a) ∧ KdAt X.K X.w a kvs) (hg : Gl X x := by rfl) (hd : (x == ("__debug__" : Str)) = false := by decide) : RE X (.Name x pos) (dC (.kd kvs)) :=
  let ⟨a, e, h⟩ := h; re_c (pe_glob (v := .ref a) hg e rfl hd) fun _ => .kd h
/-- a built-in class as a value -/
theorem pe_ty {x : Str} (c : Ty) (hm : X.mg x = none) (hv : bootBuiltins x = some (.type c.nm) := by decide +kernel) (hg : Gl X x := by rfl) (hn : x ≠ "__name__" := by decide) (hd : (x == ("__debug__" : Str)) = false := by decide) : PE X (.Name x pos) (tC (.ty c.nm)) := pe_bltn hg hm hv rfl hn hd
end
theorem cal_mk {P : Program} {w : World} {K : PySem.W.Frag} {mg : Str → Option Value} {base : Heap} {x : Str} {st : Stmt} {N ps : List Str} {k : Nat} {sp : DSp} {b : DS}
    (T : Top K mg x st) (S : FnScope N ps (defScope st)) (bd : ∀ (kV doc pm : Value) (an : Option Addr) (cdv ct : Value) (us : List Value), us.length = ps.length → bindArgs (PySem.W.fnOf x x (defArgs st) (defBody st) (defScope st) .none kV doc pm an cdv ct) ⟨us, []⟩ = pure (ps.zip us))
    (hb : ∀ (f : Addr) (cdv : Value) (A : Around) (outer : List Env) (s : Shared) (H : Hp) (E : XK), Room k (A.deeper (envOfC x (defScope st) s.heap.objs.size f cdv)) → RSs (Xf P w K mg base N x (defScope st) f cdv A outer s H E) (defBody st) b)
    (len : ∀ ds M Q E, sp ds M Q E → ds.length = ps.length)
    (hq : ∀ ds M Q E, sp ds M Q E → b { nx := fun _ M' => Q .non M', rt := Q } (startD N.length ds) M) : Cal P w K mg base (k + 1) x ps sp := by
  obtain ⟨f, fd, F, hm⟩ := T
  exact ⟨f, fd, fn_ok F S len (hb f) hq, hm, F.kp, F.bindsN bd⟩
end DH

set_option Elab.async false
set_option linter.all false
set_option autoImplicit false
set_option maxRecDepth 100000
set_option maxHeartbeats 4000000
/-! Deep readings: zip of a text and a tuple. -/
namespace DH
open PySem PySem.Spec PyProof.Rows L2
/-- a text's signs beside a tuple's items, in new pairs -/
def ItzS (K : PySem.W.Frag) (txt : Str) (b : Addr) : It :=
  ⟨fun i H => ∃ (ys : List V) (y : V), SqT K H b ys ∧ i < txt.cps.size ∧ ys[i]? = some y,
    fun i H v H' => ∃ T c y, v = .ref T ∧ H T = none ∧ H' = upd H T (.tup [.str ⟨#[c]⟩, y]) ∧ txt.cps[i]? = some c ∧ ∀ ys, SqT K H b ys → ys[i]? = some y,
    fun i H => ∃ ys : List V, SqT K H b ys ∧ i ≤ txt.cps.size ∧ i ≤ ys.length ∧ (i = txt.cps.size ∨ i = ys.length)⟩
/-- the five cells of the walk and the tuple lie apart -/
structure ZsApart (o TI TO i1 i2 b : Addr) : Prop where
  n1 : TI ≠ o
  n2 : TO ≠ o
  n3 : i1 ≠ o
  n4 : i2 ≠ o
  n5 : TI ≠ TO
  n6 : TI ≠ i1
  n7 : TI ≠ i2
  n8 : TO ≠ i1
  n9 : TO ≠ i2
  n10 : i1 ≠ i2
  b0 : b ≠ o
  b1 : b ≠ TI
  b2 : b ≠ TO
  b3 : b ≠ i1
  b4 : b ≠ i2
theorem ZsApart.sep {o TI TO i1 i2 b : Addr} (D : ZsApart o TI TO i1 i2 b) : ZipSep2 o TI TO i1 i2 [i1] [i2, b] where
  TIz := D.n1
  TOz := D.n2
  TITO := D.n5
  TIi1 := D.n6
  mem1 := by simp
  zf1 := by simp [D.n3.symm]
  Tf1 := by simp [D.n8]
  TIi2 := D.n7
  mem2 := by simp
  zf2 := by simp [D.n4.symm, D.b0.symm]
  Tf2 := by simp [D.n9, D.b2.symm]
  sep1_2 := by simp [D.n10, D.b3.symm]
  sep2_1 := by simp [D.n10.symm]
abbrev TnS (txt : Str) (tk : Tok) (o TI TO i1 i2 b : Addr) (i : Nat) (h : Heap) : Prop := IsZip h o TI TO .none ∧ IsPair h TI (.ref i1) (.ref i2) ∧ (∃ x y, IsPair h TO x y) ∧ h.IsStrIter i1 "str_ascii_iterator" txt tk i ∧ h.IsTupleIter i2 b i
theorem five {c o TI TO i1 i2 : Addr} {P : Addr → Prop} (hc : c ∈ [o, TI, TO, i1, i2]) (p0 : P o) (p1 : P TI) (p2 : P TO) (p3 : P i1) (p4 : P i2) : P c := by
  simp only [List.mem_cons, List.not_mem_nil, or_false] at hc
  rcases hc with rfl | rfl | rfl | rfl | rfl <;> assumption
theorem turn_zipS {P : Program} {w : World} {K : PySem.W.Frag} {elts : List Expr} {kk : Nat} {tpos : Pos} {txt : Str} {tk : Tok} {b o TI TO i1 i2 : Addr} (D : ZsApart o TI TO i1 i2 b) :
    Turn P w K (.Tuple elts kk tpos) (ItzS K txt b) [o, TI, TO, i1, i2] o (TnS txt tk o TI TO i1 i2 b) where
  mem := by simp
  obj := fun i h st c hc => by
    obtain ⟨hz, hI, ⟨x, y, hO⟩, ⟨o1, e1, _, d1⟩, ⟨o2, e2, _, d2⟩⟩ := st
    exact five (P := fun c => ∃ u, h.get? c = some u ∧ ∀ v, u.data ≠ .cell v) hc ⟨_, hz, fun v q => nomatch q⟩ ⟨_, hI, fun v q => nomatch q⟩ ⟨_, hO, fun v q => nomatch q⟩ ⟨o1, e1, fun v q => by rw [d1] at q; cases q⟩ ⟨o2, e2, fun v q => by rw [d2] at q; cases q⟩
  keep := fun i h h' st k => by
    obtain ⟨hz, hI, ⟨x, y, hO⟩, ⟨o1, e1, r1⟩, h2⟩ := st
    exact ⟨k o (by simp) _ hz, k TI (by simp) _ hI, ⟨x, y, k TO (by simp) _ hO⟩, ⟨o1, k i1 (by simp) o1 e1, r1⟩, h2.at fun u q => k i2 (by simp) u q⟩
  item := by
    intro Y eP ew eK calm i pins s σ H E I hf st hg
    subst eP ew eK
    obtain ⟨hz, hI, ⟨x0, y0, hO⟩, h1, h2⟩ := st
    obtain ⟨ys, y, hq, hi, hy⟩ := hg
    obtain ⟨its, rv, p, _⟩ := I.tuple hq
    obtain ⟨u2, hu2, ru2⟩ := rv.get hy
    have hh : Y.A.in1.handled = none := I.ok.hd calm
    have zl : o < s.heap.objs.size := Heap.lt_size hz
    have li : i < its.toArray.size := by
      rw [List.size_toArray]
      exact (List.getElem?_eq_some_iff.mp hu2).1
    refine wpAny_pyNext_zipD2_item D.sep (Draws.strAscii hh i1 txt tk) (Draws.tuple hh i2 b D.b4 its.toArray) hz hI hO h1 ⟨h2, p⟩ hi li fun v1 v2 h' t' q1 q2 z' O' st1 st2 hT hsz hk => ?_
    obtain ⟨c, tc, hc, rfl⟩ := q1
    obtain rfl : u2 = v2 := by
      have : its[i]? = some v2 := by simpa using q2
      rw [hu2] at this; exact Option.some.inj this
    refine ⟨_, rfl, wpAny_letOwnedTupleGo_zip (s := { s with heap := h', toks := t' }) z' fun g z2 sb => ?_⟩
    have gT : g.get? s.heap.objs.size = some { cls := .type "tuple", data := .seq #[.str ⟨#[c]⟩ tc, u2] } := (sb.2 _ (Nat.ne_of_gt zl)).trans hT
    have ok2 : ObjOk Y.prog Y.w (upd H s.heap.objs.size (.tup [.str ⟨#[c]⟩, y])) g s.heap.objs.size (.tup [.str ⟨#[c]⟩, y]) :=
      ⟨by show 2 ≤ sizeLine; decide, [.str ⟨#[c]⟩ tc, u2], .cons ⟨tc, rfl⟩ (.cons ru2 .nil), ⟨_, gT, rfl, _, rfl⟩⟩
    have hk2 : ∀ d u, d ∉ [o, TI, TO, i1, i2] → s.heap.get? d = some u → g.get? d = some u := fun d u nd e => by
      simp only [List.mem_cons, List.not_mem_nil, or_false, not_or] at nd
      exact (sb.2 d nd.1).trans (hk d u nd.1 nd.2.2.1 nd.2.2.2.1 nd.2.2.2.2 e)
    have J : Inv Y pins σ (upd H s.heap.objs.size (.tup [.str ⟨#[c]⟩, y])) { s with heap := g, toks := t' } := I.turnedNew (t' := t') (ch := [o, TI, TO, i1, i2]) hk2 hf (Nat.le_refl _) ok2
    refine ⟨.ref s.heap.objs.size, _, J, rfl, ⟨_, c, y, rfl, I.hok.fresh (Nat.le_refl _), rfl, hc, fun l hl => by rw [I.tuple_inj hl hq]; exact hy⟩, ⟨z2, ?_, ⟨_, _, (sb.2 _ D.n2).trans O'⟩, ?_, ?_⟩, fun d hd => ?_⟩
    · exact (sb.2 _ D.n1).trans (hk _ _ D.n1 D.n5 D.n6 D.n7 hI)
    · obtain ⟨a1, a2, a3⟩ := st1
      exact ⟨a1, (sb.2 _ D.n3).trans a2, a3⟩
    · exact st2.1.at fun u q => (sb.2 _ D.n4).trans q
    · have lt : d < s.heap.objs.size := five (P := fun d => d < s.heap.objs.size) hd zl (Heap.lt_size hI) (Heap.lt_size hO) (by obtain ⟨_, e1, _⟩ := h1; exact Heap.lt_size e1) (by obtain ⟨_, e2, _⟩ := h2; exact Heap.lt_size e2)
      rw [upd_ne (Nat.ne_of_lt lt)]
      exact (hf d hd).1
  done := by
    intro Y eP ew eK calm i pins s σ H E I hf st hg
    subst eP ew eK
    obtain ⟨hz, hI, ⟨x0, y0, hO⟩, h1, h2⟩ := st
    obtain ⟨ys, hq, l1, l2, hend⟩ := hg
    obtain ⟨its, rv, p, _⟩ := I.tuple hq
    have hh : Y.A.in1.handled = none := I.ok.hd calm
    have ll := rv.length
    have e5 : its.toArray.size = ys.length := by rw [List.size_toArray]; omega
    refine wpAny_pyNext_zipD2_end D.sep (Draws.strAscii hh i1 txt tk) (Draws.tuple hh i2 b D.b4 its.toArray) hz hI hO h1 ⟨h2, p⟩ l1 (e5 ▸ l2) (hend.imp id fun z => e5 ▸ z) fun h' t' hk => ⟨rfl, ?_⟩
    exact I.turnedL (t' := t') (ch := [o, TI, TO, i1, i2]) (fun d u nd e => by
      simp only [List.mem_cons, List.not_mem_nil, or_false, not_or] at nd
      exact hk d u nd.1 nd.2.2.1 nd.2.2.2.1 nd.2.2.2.2 e) hf
  self := fun A i s Q E st h => wpAny_pyIter_zip st.1 h
/-! ### the zip is made -/
abbrev cellI (n : String) (v : Value) : Obj := { cls := .type n, data := .fields #[v, .int 0 0] }
abbrev cellT (x y : Value) : Obj := { cls := .type "tuple", data := .seq #[x, y] }
abbrev zs1 (h : Heap) (v : Value) : Heap := h.push (cellI "str_ascii_iterator" v)
abbrev zs2 (h : Heap) (v u : Value) : Heap := (zs1 h v).push (cellI "tuple_iterator" u)
abbrev zs3 (h : Heap) (v u : Value) : Heap := (zs2 h v u).push (cellT (.ref h.objs.size) (.ref (zs1 h v).objs.size))
abbrev zs4 (h : Heap) (v u : Value) : Heap := (zs3 h v u).push (cellT .none .none)
abbrev zs5 (h : Heap) (v u : Value) : Heap := (zs4 h v u).push { cls := .type "zip", data := .fields #[.none, .bool false, .bool false, .ref (zs2 h v u).objs.size, .ref (zs3 h v u).objs.size] }
theorem meets_zipS (txt : Str) (tk : Tok) (b : Addr) (ys : Array Value) (ha : txt.cps.all (· < 128) = true) :
    Meets (Builtin.«zip.__new__» ⟨[.type "zip", .str txt tk, .ref b], []⟩) (fun _ R s => s.heap.IsTuple b ys ∧ R (.ok (.ret (.ref (zs4 s.heap (.str txt tk) (.ref b)).objs.size))) { s with heap := zs5 s.heap (.str txt tk) (.ref b) }) :=
  .of_wp fun prog w A R s h => by
    obtain ⟨hp, g, d, t, os⟩ := s
    obtain ⟨hb, h⟩ := h
    have isub := sub_zip
    have hb2 : Heap.IsTuple (Shared.heap ⟨hp.push (cellI "str_ascii_iterator" (.str txt tk)), g, d, t, os⟩) b ys := Heap.IsTuple.push hb _
    wp_walk using wpAny_pyIter_ascii ha, wpAny_pyIter_tuple hb2
    exact ⟨_, rfl, h⟩
theorem call_zipS {prog : Program} {w : World} {A : Around} {E : Value → Shared → Prop} {s : Shared} {txt : Str} {tk : Tok} {b : Addr} {ys : Array Value} {Q : Value → Shared → Prop} (ha : txt.cps.all (· < 128) = true) (hb : s.heap.IsTuple b ys)
    (h : ∀ h' : Heap, TnS txt tk (s.heap.objs.size + 4) (s.heap.objs.size + 2) (s.heap.objs.size + 3) s.heap.objs.size (s.heap.objs.size + 1) b 0 h' → (∀ c u, s.heap.get? c = some u → h'.get? c = some u) → Q (.ref (s.heap.objs.size + 4)) { s with heap := h' }) :
    wpAny (model prog w) A (call (.type "zip") [.str txt tk, .ref b]) Q E s := by
  refine callType_new F.called_zip (by decide) (F.typeCall_zip_2 _ _) (F.newCall_zip_2 _ _) (fun obj => F.args_object_init_3 obj _ _) F.entry_zip_new (meets_zipS txt tk b ys ha) ⟨hb, ?_⟩
  have m1 : (zs1 s.heap (.str txt tk)).objs.size = s.heap.objs.size + 1 := Heap.size_push ..
  have m2 : (zs2 s.heap (.str txt tk) (.ref b)).objs.size = s.heap.objs.size + 2 := by rw [Heap.size_push, m1]
  have m3 : (zs3 s.heap (.str txt tk) (.ref b)).objs.size = s.heap.objs.size + 3 := by rw [Heap.size_push, m2]
  have m4 : (zs4 s.heap (.str txt tk) (.ref b)).objs.size = s.heap.objs.size + 4 := by rw [Heap.size_push, m3]
  have up1 : ∀ c u, (zs4 s.heap (.str txt tk) (.ref b)).get? c = some u → (zs5 s.heap (.str txt tk) (.ref b)).get? c = some u := fun c u e => Heap.get?_push_of_some _ e
  have up2 : ∀ c u, (zs3 s.heap (.str txt tk) (.ref b)).get? c = some u → (zs5 s.heap (.str txt tk) (.ref b)).get? c = some u := fun c u e => up1 _ _ (Heap.get?_push_of_some _ e)
  have up3 : ∀ c u, (zs2 s.heap (.str txt tk) (.ref b)).get? c = some u → (zs5 s.heap (.str txt tk) (.ref b)).get? c = some u := fun c u e => up2 _ _ (Heap.get?_push_of_some _ e)
  have up4 : ∀ c u, (zs1 s.heap (.str txt tk)).get? c = some u → (zs5 s.heap (.str txt tk) (.ref b)).get? c = some u := fun c u e => up3 _ _ (Heap.get?_push_of_some _ e)
  have k5 : (zs5 s.heap (.str txt tk) (.ref b)).get? (zs4 s.heap (.str txt tk) (.ref b)).objs.size = some _ := Heap.get?_push_size _ rfl
  have k4 := up1 _ _ (Heap.get?_push_size (h := zs3 s.heap (.str txt tk) (.ref b)) (o := cellT .none .none) rfl)
  have k3 := up2 _ _ (Heap.get?_push_size (h := zs2 s.heap (.str txt tk) (.ref b)) (o := cellT (.ref s.heap.objs.size) (.ref (zs1 s.heap (.str txt tk)).objs.size)) rfl)
  have k2 := up3 _ _ (Heap.get?_push_size (h := zs1 s.heap (.str txt tk)) (o := cellI "tuple_iterator" (.ref b)) rfl)
  have k1 := up4 _ _ (Heap.get?_push_size (h := s.heap) (o := cellI "str_ascii_iterator" (.str txt tk)) rfl)
  rw [m4, m2, m3] at k5
  rw [m3] at k4
  rw [m2, m1] at k3
  rw [m1] at k2
  show _ ∧ _
  rw [m4]
  exact ⟨⟨_, k5, rfl⟩, h _ ⟨k5, k3, ⟨_, _, k4⟩, ⟨_, k1, rfl, rfl⟩, ⟨_, k2, rfl, rfl⟩⟩ fun c u e => up4 _ _ (Heap.get?_push_of_some _ e)⟩

theorem zs_apart (n : Nat) {b : Addr} (hb : b < n) : ZsApart (n + 4) (n + 2) (n + 3) n (n + 1) b := by
  have hb : @LT.lt Nat _ b n := hb
  constructor
  all_goals (show @Ne Nat _ _; omega)
/-- zip of two lists, of two tuples, of a text and a tuple -/
theorem pi_zipB {X : Cx} {e e2 : Expr} {ta : TA} {p pos tpos : Pos} {elts : List Expr} {kk : Nat} (hg : Gl X "zip") (hm : X.mg "zip" = none) (ha : PA X [e, e2] ta)
    (hs : starEach [e, e2] X.env = (false, eval e X.env) :: starEach [e2] X.env) (hpl : (backTo pos (starEach [e2] X.env)).any (·.1) = false) :
    PI X (.Tuple elts kk tpos) (.Call (.Name "zip" p) [e, e2] [] pos) (fun σ H R => ta σ H fun vs H1 => (∃ a b xs ys, vs = [.ref a, .ref b] ∧ ((SqL X.K H1 a xs ∧ SqL X.K H1 b ys ∧ R (Itz X.K a b) H1) ∨ (SqT X.K H1 a xs ∧ SqT X.K H1 b ys ∧ R (RZ.ItzT X.K a b) H1))) ∨
      ∃ txt b ys, vs = [.str txt, .ref b] ∧ txt.cps.all (· < 128) = true ∧ SqT X.K H1 b ys ∧ R (ItzS X.K txt b) H1) := ⟨fun pins s σ H R I h => by
  refine Call_ (ld_blt I hg hm PyProof.Rows.boot_zip (PyProof.Rows.callWith_type1 (thn (ha.run pos pins s σ H _ I h) fun us s1 g => ?_) hs hpl))
  obtain ⟨vs, H1, J, rr, q⟩ := g
  have fr : ∀ c ∈ [s1.heap.objs.size + 4, s1.heap.objs.size + 2, s1.heap.objs.size + 3, s1.heap.objs.size, s1.heap.objs.size + 1], FpOk X pins H1 c := fun c hc => by
    have hle : s1.heap.objs.size ≤ c := five (P := fun c => s1.heap.objs.size ≤ c) hc (Nat.le_add_right _ _) (Nat.le_add_right _ _) (Nat.le_add_right _ _) (Nat.le_refl _) (Nat.le_add_right _ _)
    exact J.fpOk hle (J.hok.fresh hle)
  rcases q with ⟨a, b, xs, ys, rfl, q⟩ | ⟨txt, b, ys, rfl, asc, hq, q⟩
  · cases rr with
    | cons ra rr =>
      cases rr with
      | cons rb rr =>
        cases rr
        cases ra
        cases rb
        rcases q with ⟨hx, hy, q⟩ | ⟨hx, hy, q⟩
        · obtain ⟨l1, v1, p1, _⟩ := J.list hx
          obtain ⟨l2, v2, p2, _⟩ := J.list hy
          refine PySem.call_zip_2 p1.isList p2.isList fun h' c1 c2 c3 c4 c5 _ up => wpAny_pyIter_zip c1 ?_
          exact ⟨_, _, _, _, H1, rfl, J.kept (t' := s1.toks) up, turn_zip (PySem.W.ktu_apart s1.heap.objs.size a b p1.lt p2.lt), ⟨c1, c2, ⟨_, _, c3⟩, c4, c5⟩, fr, q⟩
        · obtain ⟨l1, v1, p1, _⟩ := J.tuple hx
          obtain ⟨l2, v2, p2, _⟩ := J.tuple hy
          obtain ⟨o1, g1, _⟩ := id p1
          obtain ⟨o2, g2, _⟩ := id p2
          refine RZ.call_zipT (show s1.heap.IsTuple a l1.toArray from p1) (show s1.heap.IsTuple b l2.toArray from p2) fun h' c1 c2 c3 c4 c5 _ up => wpAny_pyIter_zip c1 ?_
          exact ⟨_, _, _, _, H1, rfl, J.kept (t' := s1.toks) up, RZ.turn_zipT (PySem.W.ktu_apart s1.heap.objs.size a b (Heap.lt_size g1) (Heap.lt_size g2)), ⟨c1, c2, ⟨_, _, c3⟩, c4, c5⟩, fr, q⟩
  · cases rr with
    | cons ra rr =>
      cases rr with
      | cons rb rr =>
        cases rr
        obtain ⟨tk, rfl⟩ := ra
        cases rb
        obtain ⟨its, rv, pt, _⟩ := J.tuple hq
        obtain ⟨ob, hob, _⟩ := id pt
        refine call_zipS asc pt fun h' st up => wpAny_pyIter_zip st.1 ?_
        exact ⟨_, _, _, _, H1, rfl, J.kept (t' := s1.toks) up, turn_zipS (zs_apart _ (Heap.lt_size hob)), st, fr, q⟩⟩
end DH

set_option Elab.async false
set_option linter.all false
set_option autoImplicit false
set_option maxRecDepth 100000
set_option maxHeartbeats 2000000
/-! Deep readings: instances, zip, str, statements that are not reached. -/
namespace DH
open PySem PySem.Spec PyProof.Rows L2 RZ
/-! ### fields -/
def putA (f : Str) (v : D) : List (Str × D) → List (Str × D)
  | [] => [(f, v)]
  | (g, x) :: r => if g = f then (g, v) :: r else (g, x) :: putA f v r
theorem RepF.putA {K : PySem.W.Frag} {w : World} {H : Hp} {f : Str} {d : D} {x : V} (rx : Rep K w H d x) : ∀ {fs : List (Str × D)} {gs : List (Str × V)}, RepF K w H fs gs → RepF K w H (DH.putA f d fs) (L2.putF f x gs)
  | _, _, .nil => .cons rx .nil
  | _, _, .cons (k := g) h l => by
    show RepF K w H (if g = f then (g, d) :: _ else (g, _) :: DH.putA f d _) (if g = f then (g, x) :: _ else (g, _) :: L2.putF f x _)
    by_cases e : g = f
    · rw [if_pos e, if_pos e]; exact .cons rx l
    · rw [if_neg e, if_neg e]; exact .cons h (RepF.putA rx l)
/-- a class that gives its instances the attribute f -/
abbrev CF := Addr → Str → Prop
def CfOk (K : PySem.W.Frag) (cl : CF) : Prop := ∀ C f, cl C f → Cls K C ∧ NoAttr K C f
def dFld (cl : CF) (f : Str) (de : DE) : DE := fun E M Q => de E M fun x M1 => ∃ a C fs d, x = .ref a ∧ M1 a = some (.ins C fs) ∧ cl C f ∧ fs.lookup f = some d ∧ Q d M1
def dSetFld (cl : CF) (f : Str) (dv do_ : DE) : DS := fun D E M => dv E M fun y M1 => do_ E M1 fun x M2 => ∃ a C fs, x = .ref a ∧ M2 a = some (.ins C fs) ∧ cl C f ∧ fs.length < 1000 ∧ D.nx E (updM M2 a (.ins C (putA f y fs)))
def dNever : DS := fun _ _ _ => False
section
variable {X : Cx} {cl : CF} {o e v : Expr} {do_ de dv : DE} {f : Str} {pos pos' p : Pos}
theorem re_fld (hcl : CfOk X.K cl) (he : RE X e de) (hb : attributeBase e f X.env (eval e X.env) = eval e X.env := by rfl) : RE X (.Attribute e f pos) (dFld cl f de) :=
  pe_imp (pe_fld he hb) fun σ H Q ⟨E, M, Q', sl, rm, h, k⟩ => ⟨E, M, _, sl, rm, h, fun v H1 d M1 t1 rm1 r1 q1 => by
    obtain ⟨a, C, fs, d', rfl, hM, hc, hl, q⟩ := q1
    obtain ⟨dx, gs, hH, rf⟩ := rm1 a _ hM
    obtain ⟨x, hx, rx⟩ := rf.lookup hl
    exact ⟨a, C, dx, gs, x, r1.inv_ref, hH, (hcl C f hc).1, (hcl C f hc).2, hx, k _ _ _ _ t1 rm1 rx q⟩⟩
theorem rs_setFld (hcl : CfOk X.K cl) (ho : RE X o do_) (hv : RE X v dv) (hs : swapsWith v (some (.Attribute o f pos')) pos.line X.env = pure false := by rfl) : RS X (.Assign [.Attribute o f pos'] v pos) (dSetFld cl f dv do_) :=
  fun W tk => ps_imp (ps_fld ho hv hs) fun D σ H ⟨E, M, D', sl, rm, h, k⟩ => ⟨E, M, _, sl, rm, h, fun x H1 d M1 t1 rm1 r1 q1 => ⟨E, M1, _, sl.mono t1, rm1, q1, fun y H2 d2 M2 t2 rm2 r2 q2 => by
    obtain ⟨a, C, fs, rfl, hM, hc, hl, q⟩ := q2
    obtain ⟨dx, gs, hH, rf⟩ := rm2 a _ hM
    have tm : Tx X.K H2 (upd H2 a (.ins C dx (L2.putF f x gs))) := Tx.mut hH trivial
    refine ⟨a, C, dx, gs, r2.inv_ref, hH, (hcl C f hc).1, (hcl C f hc).2, by rw [rf.length]; exact hl, ?_⟩
    exact k.nx _ _ _ _ ((t1.trans t2).trans tm) (((sl.mono t1).mono t2).mono tm) (rm2.upd (mo := .ins C (DH.putA f d fs)) tm ⟨dx, _, upd_same, (RepF.putA (r1.mono t2) rf).mono tm⟩) q⟩⟩
theorem rs_never {st : Stmt} : RS X st dNever := fun W tk => ⟨fun pins s σ H D I ⟨_, _, _, _, _, h, _⟩ => h.elim⟩
end
theorem ptg_two {X : Cx} {pos p1 p2 : Pos} {kk : Nat} {i j : Nat} {x y : Str} (hc : X.calm = true) (h1 : PG X (.Name x p1) (gName i)) (h2 : PG X (.Name y p2) (gName j)) : PTg X (.Tuple [.Name x p1, .Name y p2] kk pos) (.tp [i, j]) (gTup X.K 2 (gNames [i, j])) :=
  ptg_tup (is := [i, j]) hc (pgs_cons h1 (pgs_cons h2 pgs_nil)) rfl
/-! ### making an instance -/
/-- a class of the top whose __init__ keeps the promise sp -/
structure CalI (P : Program) (w : World) (K : PySem.W.Frag) (mg : Str → Option Value) (base : Heap) (k : Nat) (x : Str) (C : Addr) (ps : List Str) (sp : DSp) : Prop where
  ex : ∃ f fd, FnOk P w K mg base CX0 k f fd ps (spD K w sp) ∧ Mk K C f ∧ mg x = some (.ref C) ∧ Binds K fd ps []
theorem CalI.mono {P : Program} {w : World} {K : PySem.W.Frag} {mg : Str → Option Value} {base : Heap} {j k : Nat} {x : Str} {C : Addr} {ps : List Str} {sp : DSp} (c : CalI P w K mg base j x C ps sp) (h : j ≤ k) : CalI P w K mg base k x C ps sp :=
  let ⟨f, fd, F, r⟩ := c.ex; ⟨f, fd, F.mono h, r⟩
def dMake (C : Addr) (sp : DSp) (da : DA) : DE := fun E M Q => da E M fun vs M1 => ∀ x, M1 x = none → sp (.ref x :: vs) (updM M1 x (.ins C [])) (fun v M2 => v = .non ∧ Q (.ref x) M2) EX0
theorem re_make {X : Cx} {pos p : Pos} {k : Nat} {x : Str} {C : Addr} {ps : List Str} {sp : DSp} {e : Expr} {es : List Expr} {dr : DA} (c : CalI X.prog X.w X.K X.mg X.base k x C ps sp) (hr : Room (k + 1) X.A) (ha : RA X (e :: es) dr) (hg : Gl X x := by rfl) (hdb : (x == ("__debug__" : Str)) = false := by decide)
    (he : starEach (e :: es) X.env = (false, eval e X.env) :: starEach es X.env := by rfl) (hpl : (backTo pos (starEach es X.env)).any (·.1) = false := by rfl) : RE X (.Call (.Name x p) (e :: es) [] pos) (dMake C sp dr) := by
  obtain ⟨f, fd, F, M0, hm, hb⟩ := c.ex
  refine pe_imp (pe_make M0 F hr hg hm hb .nil pass0 ha hdb he hpl) fun σ H Q ⟨E, M, Q', sl, rm, h, k⟩ => ⟨E, M, _, sl, rm, h, fun vs H1 ds M1 t1 rm1 r1 q1 x dx hx hdx hne => ?_⟩
  have hx1 : upd H1 dx (.own x) x = none := by rw [upd_ne (Ne.symm hne)]; exact hx
  have tm : Tx X.K H1 (upd (upd H1 dx (.own x)) x (.ins C dx [])) := (Tx.new hdx).trans (Tx.new hx1)
  have rm2 := (rm1.keepNew (ho := .own x) hdx).upd (mo := .ins C []) (Tx.new (o := .ins C dx []) hx1) ⟨dx, [], upd_same, .nil⟩
  refine ⟨.ref x :: ds, updM M1 x (.ins C []), _, EX0, .cons (.ref x) (by rw [List.append_nil]; exact r1.mono tm), rm2, q1 x (rm1.free hx), fun v H' d M' t' rm' r' ⟨e1, q⟩ => ?_, fun _ _ _ _ _ _ z => z.elim⟩
  subst e1
  exact ⟨r'.inv_non, k _ _ _ _ ((t1.trans tm).trans t') rm' (.ref x) q⟩
theorem cali_mk {P : Program} {w : World} {K : PySem.W.Frag} {mg : Str → Option Value} {base : Heap} {x m qual : Str} {st : Stmt} {C f : Addr} {fd : FuncData} {N ps : List Str} {k : Nat} {sp : DSp} {b : DS}
    (F : FunD K m qual (defArgs st) (defBody st) (defScope st) [] [] f fd) (M0 : Mk K C f) (hm : mg x = some (.ref C)) (S : FnScope N ps (defScope st)) (bd : ∀ (kV doc pm : Value) (an : Option Addr) (cdv ct : Value) (us : List Value), us.length = ps.length → bindArgs (PySem.W.fnOf m qual (defArgs st) (defBody st) (defScope st) .none kV doc pm an cdv ct) ⟨us, []⟩ = pure (ps.zip us))
    (hb : ∀ (cdv : Value) (A : Around) (outer : List Env) (s : Shared) (H : Hp) (E : XK), Room k (A.deeper (envOfC qual (defScope st) s.heap.objs.size f cdv)) → RSs (Xf P w K mg base N qual (defScope st) f cdv A outer s H E) (defBody st) b)
    (len : ∀ ds M Q E, sp ds M Q E → ds.length = ps.length)
    (hq : ∀ ds M Q E, sp ds M Q E → b { nx := fun _ M' => Q .non M', rt := Q } (startD N.length ds) M) : CalI P w K mg base (k + 1) x C ps sp :=
  ⟨f, fd, fn_ok F S len hb hq, M0, hm, F.bindsN bd⟩
/-! ### zip -/
def zipD (xs ys : List D) : List D := (xs.zip ys).map fun p => .tup [p.1, p.2]
def dZip (da : DA) : DI := fun E M Q => da E M fun ds M1 => match ds with
  | [.tup xs, .tup ys] => Q (zipD xs ys) (fun _ => True) M1
  | [.ref a, .ref b] => ∃ xs ys, IsL M1 a xs ∧ IsL M1 b ys ∧ Q (zipD xs ys) (fun M => IsL M a xs ∧ IsL M b ys) M1
  | [.str z, .tup ys] => z.cps.all (· < 128) = true ∧ Q (zipD (strD z) ys) (fun _ => True) M1
  | _ => False
section
variable {K : PySem.W.Frag} {w : World} {H : Hp}
theorem zip_at {xs ys : List D} {i : Nat} {d : D} (h : (zipD xs ys)[i]? = some d) : ∃ x y, xs[i]? = some x ∧ ys[i]? = some y ∧ d = .tup [x, y] := by
  unfold zipD at h
  rw [List.getElem?_map] at h
  obtain ⟨p, h1, h2⟩ := Option.map_eq_some_iff.mp h
  obtain ⟨h3, h4⟩ := List.getElem?_zip_eq_some.mp h1
  exact ⟨p.1, p.2, h3, h4, h2.symm⟩
theorem zip_len (xs ys : List D) : (zipD xs ys).length = min xs.length ys.length := by unfold zipD; simp
theorem it_zipT {a b : Addr} {ds es : List D} {xs ys : List V} (sx : SqT K H a xs) (sy : SqT K H b ys) (lx : RepL K w H ds xs) (ly : RepL K w H es ys) : ItOk K w H (ItzT K a b) (zipD ds es) (fun _ => True) := fun i H' M t rm st => by
  refine ⟨fun d e => ?_, fun e => ⟨xs, ys, t.t _ _ sx, t.t _ _ sy, by rw [lx.length, ly.length, e, zip_len]; omega⟩⟩
  obtain ⟨x, y, ex, ey, rfl⟩ := zip_at e
  obtain ⟨u, e1, r⟩ := lx.get ex
  obtain ⟨v, e2, r2⟩ := ly.get ey
  refine ⟨⟨xs, ys, u, v, t.t _ _ sx, t.t _ _ sy, e1, e2⟩, fun z H2 h => ?_⟩
  obtain ⟨T, u', v', rfl, hT, rfl, h1, h2⟩ := h
  have q1 := h1 xs (t.t _ _ sx)
  have q2 := h2 ys (t.t _ _ sy)
  rw [e1] at q1; cases q1
  rw [e2] at q2; cases q2
  have tn : Tx K H' (upd H' T (.tup [u, v])) := Tx.new hT
  exact ⟨tn, rm.keepNew hT, .tup (.inl (.of upd_same)) (.cons ((r.mono t).mono tn) (.cons ((r2.mono t).mono tn) .nil))⟩
theorem it_zipL {a b : Addr} {ds es : List D} : ItOk K w H (Itz K a b) (zipD ds es) (fun M => IsL M a ds ∧ IsL M b es) := fun i H' M t rm ⟨sa, sb⟩ => by
  obtain ⟨xs, sx, lx⟩ := sa.sq rm
  obtain ⟨ys, sy, ly⟩ := sb.sq rm
  refine ⟨fun d e => ?_, fun e => ⟨xs, ys, sx, sy, by rw [lx.length, ly.length, e, zip_len]; omega⟩⟩
  obtain ⟨x, y, ex, ey, rfl⟩ := zip_at e
  obtain ⟨u, e1, r⟩ := lx.get ex
  obtain ⟨v, e2, r2⟩ := ly.get ey
  refine ⟨⟨xs, ys, u, v, sx, sy, e1, e2⟩, fun z H2 h => ?_⟩
  obtain ⟨T, u', v', rfl, hT, rfl, h1, h2⟩ := h
  have q1 := h1 xs sx
  have q2 := h2 ys sy
  rw [e1] at q1; cases q1
  rw [e2] at q2; cases q2
  have tn : Tx K H' (upd H' T (.tup [u, v])) := Tx.new hT
  exact ⟨tn, rm.keepNew hT, .tup (.inl (.of upd_same)) (.cons (r.mono tn) (.cons (r2.mono tn) .nil))⟩
theorem it_zipS {z : Str} {b : Addr} {es : List D} {ys : List V} (sy : SqT K H b ys) (ly : RepL K w H es ys) : ItOk K w H (ItzS K z b) (zipD (strD z) es) (fun _ => True) := fun i H' M t rm st => by
  have lz : (strD z).length = z.cps.size := by unfold strD; simp
  have l2 := ly.length
  have lm := zip_len (strD z) es
  refine ⟨fun d e => ?_, fun e => ⟨ys, t.t _ _ sy, by omega, by omega, by omega⟩⟩
  obtain ⟨x, y, ex, ey, rfl⟩ := zip_at e
  obtain ⟨v, e2, r2⟩ := ly.get ey
  have hi : i < z.cps.size := by rw [← lz]; exact (List.getElem?_eq_some_iff.mp ex).1
  refine ⟨⟨ys, v, t.t _ _ sy, hi, e2⟩, fun q H2 h => ?_⟩
  obtain ⟨T, c, v', rfl, hT, rfl, h1, h2⟩ := h
  have q2 := h2 ys (t.t _ _ sy)
  rw [e2] at q2; cases q2
  have ex2 : x = .str ⟨#[c]⟩ := by
    unfold strD at ex
    rw [List.getElem?_map, Array.getElem?_toList, h1] at ex
    exact (Option.some.inj ex).symm
  subst ex2
  have tn : Tx K H' (upd H' T (.tup [.str ⟨#[c]⟩, v])) := Tx.new hT
  exact ⟨tn, rm.keepNew hT, .tup (.inl (.of upd_same)) (.cons (.str _) (.cons ((r2.mono t).mono tn) .nil))⟩
end
theorem ri_zip {X : Cx} {e e2 : Expr} {da : DA} {p pos tpos : Pos} {elts : List Expr} {kk : Nat} (hg : Gl X "zip") (hm : X.mg "zip" = none) (ha : RA X [e, e2] da)
    (hs : starEach [e, e2] X.env = (false, eval e X.env) :: starEach [e2] X.env := by rfl) (hpl : (backTo pos (starEach [e2] X.env)).any (·.1) = false := by rfl) : RI X (.Tuple elts kk tpos) (.Call (.Name "zip" p) [e, e2] [] pos) (dZip da) := by
  have key : PI X (.Tuple elts kk tpos) (.Call (.Name "zip" p) [e, e2] [] pos) (fun σ H R => taD X.K X.w da σ H fun vs H1 => (∃ a b xs ys, vs = [.ref a, .ref b] ∧ ((SqL X.K H1 a xs ∧ SqL X.K H1 b ys ∧ R (Itz X.K a b) H1) ∨ (SqT X.K H1 a xs ∧ SqT X.K H1 b ys ∧ R (ItzT X.K a b) H1))) ∨ ∃ txt b ys, vs = [.str txt, .ref b] ∧ txt.cps.all (· < 128) = true ∧ SqT X.K H1 b ys ∧ R (ItzS X.K txt b) H1) := pi_zipB hg hm ha hs hpl
  refine pi_imp key fun σ H R ⟨E, M, Q', sl, rm, h, k⟩ => ⟨E, M, _, sl, rm, h, fun vs H' ds M' t rm' r q => ?_⟩
  split at q
  · obtain ⟨v, u, rfl, r1, r2⟩ := r.inv2
    obtain ⟨a, xs, rfl, sq, l⟩ := r1.inv_tup
    obtain ⟨b, ys, rfl, sq2, l2⟩ := r2.inv_tup
    exact .inl ⟨a, b, xs, ys, rfl, .inr ⟨sq, sq2, k _ _ _ _ _ t rm' (it_zipT sq sq2 l l2) q⟩⟩
  · obtain ⟨v, u, rfl, r1, r2⟩ := r.inv2
    obtain ⟨ds1, es1, h1, h2, h3⟩ := q
    obtain ⟨xs, sq, l⟩ := h1.sq rm'
    obtain ⟨ys, sq2, l2⟩ := h2.sq rm'
    exact .inl ⟨_, _, xs, ys, by rw [r1.inv_ref, r2.inv_ref], .inl ⟨sq, sq2, k _ _ _ _ _ t rm' it_zipL h3⟩⟩
  · obtain ⟨v, u, rfl, r1, r2⟩ := r.inv2
    obtain ⟨b, ys, rfl, sq2, l2⟩ := r2.inv_tup
    exact .inr ⟨_, b, ys, by rw [r1.inv_str], q.1, sq2, k _ _ _ _ _ t rm' (it_zipS sq2 l2) q.2⟩
  · exact q.elim
/-! ### str -/
end DH

set_option Elab.async false
set_option linter.all false
set_option autoImplicit false
set_option maxRecDepth 100000
set_option maxHeartbeats 2000000
/-! Deep readings: the top and the end. -/
namespace DH
open PySem PySem.Spec PyProof.Rows L2
theorem cal_no {P : Program} {w : World} {K : PySem.W.Frag} {mg : Str → Option Value} {base : Heap} {x : Str} {st : Stmt} {ps : List Str} {k : Nat} {sp : DSp}
    (T : Top K mg x st) (bd : ∀ (kV doc pm : Value) (an : Option Addr) (cdv ct : Value) (us : List Value), us.length = ps.length → bindArgs (PySem.W.fnOf x x (defArgs st) (defBody st) (defScope st) .none kV doc pm an cdv ct) ⟨us, []⟩ = pure (ps.zip us))
    (no : ∀ ds M Q E, ¬ sp ds M Q E) : Cal P w K mg base k x ps sp := by
  obtain ⟨f, fd, F, hm⟩ := T
  exact ⟨f, fd, ⟨fun vs H Q E ⟨ds, M, Q', E', _, _, h, _⟩ => (no _ _ _ _ h).elim, fun A outer s H args us vs Q E _ _ _ _ ⟨ds, M, Q', E', _, _, h, _⟩ => (no _ _ _ _ h).elim⟩, hm, F.kp, F.bindsN bd⟩
/-- scalars as the head names them -/
def toDv : D → He.Dv
  | .bl b => .bl b
  | .int i => .int i
  | .str x => .str x
  | _ => .non
def scalD : D → Bool
  | .non | .bl _ | .int _ | .str _ => true
  | _ => false
theorem flt_dv {d : D} (K : PySem.W.Frag) (h : scalD d = true) : Flt d ((toDv d).v K) := by
  cases d <;> first | (cases h; done) | constructor
theorem look_mem {z : Str} {d : D} : ∀ {kvs : List (Str × D)}, kvs.lookup z = some d → (z, d) ∈ kvs
  | [], h => by simp at h
  | (k, e) :: r, h => by
    rw [List.lookup_cons] at h
    cases q : z == k with
    | true =>
      rw [q] at h
      have e1 : z = k := eq_of_beq q
      cases h
      subst e1
      exact List.mem_cons_self
    | false =>
      rw [q] at h
      exact List.mem_cons_of_mem _ (look_mem h)
theorem look_none {z : Str} : ∀ {kvs : List (Str × D)}, kvs.lookup z = none → ∀ q ∈ kvs, q.1 ≠ z
  | [], _, q, h => by cases h
  | (k, e) :: r, h, q, hq => by
    rw [List.lookup_cons] at h
    cases c : z == k with
    | true => rw [c] at h; cases h
    | false =>
      rw [c] at h
      rcases List.mem_cons.mp hq with rfl | hq
      · intro e1
        have e1 : k = z := e1
        subst e1
        simp at c
      · exact look_none h q hq
theorem kdAt_of {K : PySem.W.Frag} {w : World} {a : Addr} {kvs : List (Str × D)} (hk : He.dicW K a = some (He.keysIn w.params (kvs.map (·.1)))) (hv : He.valsB K a (kvs.map fun q => (q.1, toDv q.2)) = true)
    (hs : kvs.length ≤ 1000) (hf : (kvs.all fun q => scalD q.2) = true) : KdAt K w a kvs := by
  obtain ⟨es, n, kd⟩ := He.dicW_ok hk
  have hm : es.toList.map He.keyOf = He.keysIn w.params (kvs.map (·.1)) := by
    unfold He.dicW at hk
    rw [kd.at_] at hk
    simp only [kd.low] at hk
    exact Option.some.inj hk
  have hsz : es.size = kvs.length := by
    have := congrArg List.length hm
    simpa [He.keysIn] using this
  refine ⟨⟨es, n, kd, hsz⟩, hs, fun z d h => ?_, fun z h => ?_⟩
  · have hq := look_mem h
    obtain ⟨u, h1, h2⟩ := He.valsB_ok hv (List.mem_map.mpr ⟨_, hq, rfl⟩)
    exact ⟨u, _, h1, h2, flt_dv K (List.all_eq_true.mp hf _ hq)⟩
  · have hno := look_none h
    have hkey : ∀ e ∈ es.toList, ∃ x t, e.key = .str x t ∧ x ≠ z := fun e he => by
      have h1 : He.keyOf e ∈ es.toList.map He.keyOf := List.mem_map.mpr ⟨e, he, rfl⟩
      rw [hm] at h1
      unfold He.keysIn at h1
      obtain ⟨k, hk2, h2⟩ := List.mem_map.mp h1
      obtain ⟨q, hq, rfl⟩ := List.mem_map.mp hk2
      unfold He.keyOf at h2
      split at h2
      · rename_i x t c
        have h3 := Option.some.inj h2
        have h4 : q.1 = x := congrArg (·.1) h3
        exact ⟨x, t, c, h4 ▸ hno q hq⟩
      · cases h2
    unfold PySem.W.nsIn
    rw [kd.at_]
    have h1 : es.toList.find? (fun e => e.key.isStr z) = none := by
      rw [List.find?_eq_none]
      intro e he
      obtain ⟨x, t, hx, hne⟩ := hkey e he
      rw [hx]
      simpa [Value.isStr] using hne
    have h2 : (es.toList.any fun e => e.refKey) = false := by
      rw [List.any_eq_false]
      intro e he
      obtain ⟨x, t, hx, hne⟩ := hkey e he
      unfold DictEntry.refKey
      rw [hx]; simp
    show (match es.toList.find? (·.key.isStr z) with
      | some e => some (some e.val)
      | none => if es.toList.any (·.refKey) then none else some none) = some none
    rw [h1]
    show (if (es.toList.any fun e => e.refKey) = true then none else some none) = some none
    rw [h2]; rfl
theorem tab_of {fa : List He.Fa} {fn : List He.DefD} {ts : List He.Tab} {w : World} {K : PySem.W.Frag} (c : He.SaysT fa fn ts w K) (i : Nat) {t : He.Tab} (h : ts[i]? = some t) : He.dicW K (t.1 K) = some (He.keysIn w.params t.2) := by
  have e : (ts.map fun t => He.dicW K (t.1 K)) = ts.map fun t => some (He.keysIn w.params t.2) := congrArg (fun z : He.AlT => z.2) c
  have e2 := congrArg (fun l => l[i]?) e
  simp only [List.getElem?_map, h, Option.map_some] at e2
  exact Option.some.inj e2
theorem start_rep {K : PySem.W.Frag} {w : World} {H : Hp} {a : Addr} {ns : List Int} (ho : Only H) (h : SqL K H a (ns.map V.int)) : RepL K w H [.fl (ns.map D.int)] [.ref a] := by
  refine .cons (.fl (xs := ns.map V.int) ?_ (RepL.ints ns)) .nil
  rcases h with h | h
  · rcases h with h | ⟨o, h⟩
    · rcases ho a with q | ⟨o, xs, q⟩
      · rw [h] at q; cases q
      · rw [h] at q; cases q
    · exact .inl ⟨o, h⟩
  · exact .inr h
theorem start_sp {K : PySem.W.Frag} {w : World} {H : Hp} {a : Addr} {ns : List Int} {sp : DSp} (ho : Only H) (h : SqL K H a (ns.map V.int)) (q : ∀ (Q : DQ) (E : DX), (∀ M, Q (.bl true) M) → sp [.fl (ns.map D.int)] (fun _ => none) Q E) : spD K w sp [.ref a] H (fun v _ => v = .bl true) fun _ _ _ => False :=
  ⟨_, fun _ => none, fun d _ => d = .bl true, fun _ _ _ => False, start_rep ho h, (fun a o e => by cases e), q _ _ fun _ => rfl, fun v H' d M' _ _ r e => (by
    subst e; exact r.inv_bl), fun _ _ _ _ _ _ h => h⟩
end DH

set_option Elab.async false
set_option linter.all false
set_option autoImplicit false
set_option maxRecDepth 100000
set_option maxHeartbeats 2000000
/-! Deep readings: exceptions. -/
namespace DH
open PySem PySem.Spec PyProof.Rows L2
/-! ### a def that may raise -/
theorem fn_okX {P : Program} {w : World} {K : PySem.W.Frag} {mg : Str → Option Value} {base : Heap} {x qual : Str} {params : Arguments} {body : List Stmt} {scope : Scope} {f : Addr} {fd : FuncData} {N ps : List Str} {k : Nat} {sp : DSp} {b : DS}
    (F : FunD K x qual params body scope [] [] f fd) (S : FnScope N ps scope) (len : ∀ ds M Q E, sp ds M Q E → ds.length = ps.length)
    (hb : ∀ (cdv : Value) (A : Around) (outer : List Env) (s : Shared) (H : Hp) (E : XK), Room k (A.deeper (envOfC qual scope s.heap.objs.size f cdv)) → RSs (cxOf (L2.CX P w) P w K mg base N qual scope f cdv A outer s H E) body b)
    (hq : ∀ ds M Q E, sp ds M Q E → b { nx := fun _ M' => Q .non M', rt := Q, xc := fun cls d _ M' => E cls d M' } (startD N.length ds) M) : FnOk P w K mg base (L2.CX P w) (k + 1) f fd ps (spD K w sp) := by
  refine F.ok S (fun vs H Q E h => ?_) (fun cdv A outer s H vs Q E hr h => ?_)
  · obtain ⟨ds, M, Q', E', r, _, h, _⟩ := h
    rw [r.length]
    exact len _ _ _ _ h
  · obtain ⟨ds, M, Q', E', r, rm, h, kc, ke⟩ := h
    refine ⟨_, hb cdv A outer s H E hr (fun cls d _ H => E cls d H) (takes_of rfl rfl rfl rfl), ⟨_, M, _, repL_at r, rm, hq _ _ _ _ h, ⟨fun σ' H' E' M' t _ rm' q => kc _ _ _ _ t rm' .non q, kc, fun _ _ _ _ _ _ _ z => z.elim, fun _ _ _ _ _ _ _ z => z.elim, fun cls d σ' H' E2 M' t _ rm' q => ke cls d H' M' t rm' q⟩⟩⟩
/-- a def of the top that may raise -/
structure CalX (P : Program) (w : World) (K : PySem.W.Frag) (mg : Str → Option Value) (base : Heap) (k : Nat) (x : Str) (ps : List Str) (sp : DSp) : Prop where
  ex : ∃ f fd, FnOk P w K mg base (L2.CX P w) k f fd ps (spD K w sp) ∧ mg x = some (.ref f) ∧ PySem.W.keepIn K (.ref f) = true ∧ Binds K fd ps []
theorem CalX.mono {P : Program} {w : World} {K : PySem.W.Frag} {mg : Str → Option Value} {base : Heap} {j k : Nat} {x : Str} {ps : List Str} {sp : DSp} (C : CalX P w K mg base j x ps sp) (h : j ≤ k) : CalX P w K mg base k x ps sp :=
  let ⟨f, fd, F, r⟩ := C.ex; ⟨f, fd, F.mono h, r⟩
theorem calx_mk {P : Program} {w : World} {K : PySem.W.Frag} {mg : Str → Option Value} {base : Heap} {x : Str} {st : Stmt} {N ps : List Str} {k : Nat} {sp : DSp} {b : DS}
    (T : Top K mg x st) (S : FnScope N ps (defScope st)) (bd : ∀ (kV doc pm : Value) (an : Option Addr) (cdv ct : Value) (us : List Value), us.length = ps.length → bindArgs (PySem.W.fnOf x x (defArgs st) (defBody st) (defScope st) .none kV doc pm an cdv ct) ⟨us, []⟩ = pure (ps.zip us))
    (hb : ∀ (f : Addr) (cdv : Value) (A : Around) (outer : List Env) (s : Shared) (H : Hp) (E : XK), Room k (A.deeper (envOfC x (defScope st) s.heap.objs.size f cdv)) → RSs (cxOf (L2.CX P w) P w K mg base N x (defScope st) f cdv A outer s H E) (defBody st) b)
    (len : ∀ ds M Q E, sp ds M Q E → ds.length = ps.length)
    (hq : ∀ ds M Q E, sp ds M Q E → b { nx := fun _ M' => Q .non M', rt := Q, xc := fun cls d _ M' => E cls d M' } (startD N.length ds) M) : CalX P w K mg base (k + 1) x ps sp := by
  obtain ⟨f, fd, F, hm⟩ := T
  exact ⟨f, fd, fn_okX F S len (hb f) hq, hm, F.kp, F.bindsN bd⟩
/-! ### calls that may raise, as statements -/
section
variable {X : Cx} {pos cpos : Pos} {k : Nat} {x : Str} {ps : List Str} {sp : DSp} {p : Pos} {e : Expr} {es : List Expr} {da : DA}
theorem pe_calX {W : WX} (C : CalX X.prog X.w X.K X.mg X.base k x ps sp) (hr : Room k X.A) (tk : L2.Takes X W) (ha : RA X (e :: es) da) (hg : Gl X x) (hdb : (x == ("__debug__" : Str)) = false)
    (he : starEach (e :: es) X.env = (false, eval e X.env) :: starEach es X.env) (hpl : (backTo cpos (starEach es X.env)).any (·.1) = false) : PE X (.Call (.Name x p) (e :: es) [] cpos) (tCallS (spD X.K X.w sp) (WE W) (taD X.K X.w da)) :=
  let ⟨_, _, F, hm, hk, hb⟩ := C.ex; pe_callS F hr hg hm hk hb (fun σ => passAt tk σ) ha hdb he hpl
end
/-! ### an own exception class with an __init__ of one argument -/
/-- the promise of such an __init__: the field f holds the argument -/
def spExc (K : PySem.W.Frag) (C : Addr) (f : Str) (okV : V → Prop) : Sp := fun vs H Q _ => ∃ a v, vs = [.ref a, v] ∧ okV v ∧ OexC K C ∧ PySem.W.findIn K (.ref C) f = some none ∧ H a = some (exo a C none) ∧ ∀ dx, H dx = none → dx ≠ a → Q .non (upd (upd H dx (exd dx [(f, v)])) a (exo a C (some dx)))
structure CalE (P : Program) (w : World) (K : PySem.W.Frag) (mg : Str → Option Value) (base : Heap) (k : Nat) (x : Str) (C : Addr) (f : Str) (okV : V → Prop) : Prop where
  ex : ∃ fI fd ps, FnOk P w K mg base CX0 k fI fd ps (spExc K C f okV) ∧ PySem.W.findIn K (.ref C) "__init__" = some (some (.ref fI)) ∧ PySem.W.typeIn K (.ref fI) = some (.type "function") ∧ Binds K fd ps [] ∧ mg x = some (.ref C) ∧ OexC K C ∧ PySem.W.findIn K (.ref C) f = some none
theorem CalE.mono {P : Program} {w : World} {K : PySem.W.Frag} {mg : Str → Option Value} {base : Heap} {j k : Nat} {x : Str} {C : Addr} {f : Str} {okV : V → Prop} (c : CalE P w K mg base j x C f okV) (h : j ≤ k) : CalE P w K mg base k x C f okV :=
  let ⟨fI, fd, ps, F, r⟩ := c.ex; ⟨fI, fd, ps, F.mono h, r⟩
theorem Tx.grow {K : PySem.W.Frag} {H H' : Hp} (h : ∀ b, H b ≠ none → H' b = H b) : Tx K H H' := ⟨fun a xs e => by
  rcases e with (e | ⟨u, e⟩) | e
  · exact .inl (.inl (by rw [h a (by rw [e]; simp)]; exact e))
  · exact .inl (.inr ⟨u, by rw [h a (by rw [e]; simp)]; exact e⟩)
  · exact .inr e, fun a u v e => by rw [h a (by rw [e]; simp)]; exact e⟩
def dRaise (C : Addr) (f : Str) (okD : D → Prop) (de : DE) : DS := fun D E M => de E M fun v M1 => okD v ∧ ∀ d, M1 d = none → D.xc (.ref C) (some d) E (updM M1 d (.xd [(f, v)]))
theorem rs_raise {X : Cx} {pos p cpos : Pos} {k : Nat} {x : Str} {C : Addr} {f : Str} {okV : V → Prop} {okD : D → Prop} {e : Expr} {de : DE} (c : CalE X.prog X.w X.K X.mg X.base k x C f okV) (hr : Room (k + 1) X.A) (hok : ∀ H d v, Rep X.K X.w H d v → okD d → okV v) (hcalm : X.calm = true) (he0 : RE X e de) (hg : Gl X x := by rfl) (hdb : (x == ("__debug__" : Str)) = false := by decide)
    (he : starEach [e] X.env = (false, eval e X.env) :: starEach [] X.env := by rfl) (hpl : (backTo cpos (starEach [] X.env)).any (·.1) = false := by rfl) : RS X (.Raise (some (.Call (.Name x p) [e] [] cpos)) none pos) (dRaise C f okD de) := fun W tk => by
  obtain ⟨fI, fd, ps, F, iC, tI, hb, hm, T, hno⟩ := c.ex
  refine ps_imp (ps_raise hcalm tk (pmk_oex T iC tI F hr hb .nil pass0 hg hm (pa_cons he0 pa_nil he) hdb he hpl)) fun D σ H ⟨E, M, D', sl, rm, h, kn⟩ => ?_
  refine ⟨E, M, _, sl, rm, h, fun v H1 dv M1 t1 rm1 r1 q1 => ⟨by show 1 ≤ 1000; decide, fun a ha => ?_⟩⟩
  refine ⟨a, v, rfl, hok H1 dv v r1 q1.1, T, hno, upd_same, fun dx hdx hne => ?_⟩
  have hdx1 : H1 dx = none := by rw [upd_ne hne] at hdx; exact hdx
  refine ⟨rfl, dx, [(f, v)], upd_same, by rw [upd_ne hne, upd_same], hdx1, ?_⟩
  have hoth : ∀ b, b ≠ dx → b ≠ a → (upd (del (upd (upd (upd H1 a (exo a C none)) dx (exd dx [(f, v)])) a (exo a C (some dx))) a) dx (.xd [(f, v)])) b = H1 b := fun b h1 h2 => by
    rw [upd_ne h1, del_ne h2, upd_ne h2, upd_ne h1, upd_ne h2]
  have tg : Tx X.K H1 (upd (del (upd (upd (upd H1 a (exo a C none)) dx (exd dx [(f, v)])) a (exo a C (some dx))) a) dx (.xd [(f, v)])) := Tx.grow fun b hb => hoth b (fun z => by subst z; exact hb hdx1) (fun z => by subst z; exact hb ha)
  have rmx : Rm X.K X.w (upd (del (upd (upd (upd H1 a (exo a C none)) dx (exd dx [(f, v)])) a (exo a C (some dx))) a) dx (.xd [(f, v)])) (updM M1 dx (.xd [(f, dv)])) := fun b o eb => by
    by_cases z : b = dx
    · subst z
      rw [updM_same] at eb
      cases eb
      exact ⟨_, upd_same, .cons (r1.mono tg) .nil⟩
    · rw [updM_ne z] at eb
      have hba : b ≠ a := fun q => by subst q; rw [rm1.free ha] at eb; cases eb
      exact (rm1 b o eb).keep (hoth b z hba) tg
  exact kn.xc _ _ _ _ _ _ (t1.trans tg) ((sl.mono t1).mono tg) rmx (q1.2 dx (rm1.free hdx1))
end DH

set_option Elab.async false
set_option linter.all false
set_option autoImplicit false
set_option maxRecDepth 100000
set_option maxHeartbeats 2000000
/-! Deep readings: own exception classes, from the head. -/
namespace DH
open PySem PySem.Spec PyProof.Rows L2
/-- a class below ValueError, as the head has it -/
def oexB (K : PySem.W.Frag) (C : Addr) : Bool := match K.lookup C with
  | some ⟨.type t, _, .cls ⟨_, _, mro, _, _, hd, _, _, _, _, del⟩, sl⟩ => (match mro, sl.toList with
    | .ref C' :: bm, [_, _, _, _, some (.builtin n), _] => decide (t = "type") && (decide (C' = C) && (decide (n = "ValueError.__new__") && (hd && (!del && PySem.HandSPX.refsVE bm))))
    | _, _ => false)
  | _ => false
theorem oexB_ok {K : PySem.W.Frag} {C : Addr} (h : oexB K C = true) : ∃ nm q N bs bm sn sub ab col dd k0 k1 k2 k3 k5, K.lookup C = some (excClassObj nm q C N bs bm true sn sub ab col dd k0 k1 k2 k3 k5 "ValueError.__new__") ∧ PySem.HandSPX.refsVE bm = true := by
  unfold oexB at h
  split at h
  · rename_i t dd nm bs mro N q hd sn sub ab col del sl ho
    split at h
    · rename_i C' bm k0 k1 k2 k3 n k5 hs
      simp only [Bool.and_eq_true, decide_eq_true_eq, Bool.not_eq_true'] at h
      obtain ⟨rfl, rfl, rfl, rfl, rfl, hr⟩ := h
      have e : sl = #[k0, k1, k2, k3, some (.builtin "ValueError.__new__"), k5] := by
        apply Array.toList_inj.mp
        rw [hs]
      subst e
      exact ⟨nm, q, N, bs, bm, sn, sub, ab, col, dd, k0, k1, k2, k3, k5, ho, hr⟩
    · cases h
  · cases h
def excB (K : PySem.W.Frag) (C : Addr) (f : Str) : Bool := oexB K C && (He.eqO (PySem.W.findIn K (.ref C) "__setattr__") (some (some (.builtin "object.__setattr__"))) && (decide (PySem.W.subIn K (.ref C) (.type "BaseException") = some true) && (decide (PySem.W.typeIn K (.ref C) = some (.type "type")) && (PySem.W.keepIn K (.ref C) &&
  (He.eqO (PySem.W.findIn K (.ref C) f) (some none) && (He.eqO (PySem.W.findIn K (.ref C) "__init__") (some (some (.ref (He.ma K C "__init__")))) && decide (PySem.W.typeIn K (.ref (He.ma K C "__init__")) = some (.type "function"))))))))
structure ExcF (K : PySem.W.Frag) (C : Addr) (f : Str) : Prop where
  T : OexC K C
  no : PySem.W.findIn K (.ref C) f = some none
  init : PySem.W.findIn K (.ref C) "__init__" = some (some (.ref (He.ma K C "__init__")))
  ty : PySem.W.typeIn K (.ref (He.ma K C "__init__")) = some (.type "function")
theorem excB_ok {K : PySem.W.Frag} {C : Addr} {f : Str} (h : excB K C f = true) : ExcF K C f := by
  unfold excB at h
  simp only [Bool.and_eq_true, decide_eq_true_eq] at h
  obtain ⟨h1, h2, h3, h4, h5, h6, h7, h8⟩ := h
  exact ⟨⟨oexB_ok h1, He.eqO_ok h2, h3, h4, h5⟩, He.eqO_ok h6, He.eqO_ok h7, h8⟩
/-- a base whose __init__ is ValueError's -/
def baseB (K : PySem.W.Frag) (C : Addr) : Bool := PySem.W.readsIn K C (.type "type") && (He.eqO (PySem.W.specialIn K (.ref C) "__getattribute__") (some (some (.builtin "type.__getattribute__"))) && (match PySem.W.findCls K (.ref C) (.type "type") "__init__" with
  | some (.val (.builtin n)) => decide (n = "ValueError.__init__")
  | _ => false))
structure BaseF (K : PySem.W.Frag) (C : Addr) : Prop where
  rd : PySem.W.readsIn K C (.type "type") = true
  ga : PySem.W.specialIn K (.ref C) "__getattribute__" = some (some (.builtin "type.__getattribute__"))
  at_ : PySem.W.findCls K (.ref C) (.type "type") "__init__" = some (.val (.builtin "ValueError.__init__"))
theorem baseB_ok {K : PySem.W.Frag} {C : Addr} (h : baseB K C = true) : BaseF K C := by
  unfold baseB at h
  simp only [Bool.and_eq_true] at h
  obtain ⟨h1, h2, h3⟩ := h
  refine ⟨h1, He.eqO_ok h2, ?_⟩
  split at h3
  · rename_i n e
    rw [e, of_decide_eq_true h3]
  · cases h3
section
variable {X : Cx} {e : Expr} {es : List Expr} {ta : TA} {p1 p2 pos : Pos} {bn : Str} {C0 : Addr}
theorem pe_baseInit {pl : Sem Bool} (hg : Gl X bn) (hm : X.mg bn = some (.ref C0)) (B : BaseF X.K C0) (ha : PA X (e :: es) ta) (hdb : (bn == ("__debug__" : Str)) = false := by decide)
    (hc : eval (.Call (.Attribute (.Name bn p1) "__init__" p2) (e :: es) [] pos) X.env = (do
      let ov ← eval (.Name bn p1) X.env
      standAt p2.atName
      let (f, first) ← holding [ov] (getMethod ov "__init__" pl)
      callWith pos f first (backTo pos (starEach (e :: es) X.env)) (backToKw pos (keywordEach [] X.env))) := by rfl)
    (he : starEach (e :: es) X.env = (false, eval e X.env) :: starEach es X.env := by rfl) (hpl : (backTo pos (starEach es X.env)).any (·.1) = false := by rfl) :
    PE X (.Call (.Attribute (.Name bn p1) "__init__" p2) (e :: es) [] pos) (tVeI X.K ta) :=
  ⟨fun pins s σ H Q I h => by
    refine PySem.W.methodCall_KW (ld_glob I hg hm (PySem.W.method_cls I.kIn B.ga (PySem.W.cls_value I.kIn B.rd B.at_ (by decide +kernel) ?_)) hdb) hc
    refine PyProof.Rows.callWith_method1 (thn (ha.run pos pins _ σ H _ (I.tok _) h) fun us s1 g => ?_) he hpl
    obtain ⟨vs, H1, J, rr, a, C, ws, rfl, hl, T, ea, q⟩ := g
    cases rr with
    | cons r1 r2 =>
      cases r1
      exact oinit_ok T J ea (by rw [← Paired.length r2, sizeLine_eq]; omega) fun s2 J2 => ⟨.non, H1, J2, rfl, q⟩⟩
end
end DH

set_option Elab.async false
set_option linter.all false
set_option autoImplicit false
set_option maxRecDepth 100000
set_option maxHeartbeats 2000000
/-! Deep readings: try, except as. -/
namespace DH
open PySem PySem.Spec PyProof.Rows L2
theorem Sl.unset {K : PySem.W.Frag} {w : World} {H : Hp} {σ : L2.St} {E : DEnv} (s : Sl K w H σ E) (i : Nat) : Sl K w H (σ.set i none) (E.set i none) := by
  refine ⟨by rw [List.length_set, List.length_set]; exact s.len, fun j d e => ?_⟩
  by_cases h : i = j
  · subst h
    rw [List.getElem?_set] at e
    split at e
    · split at e <;> simp at e
    · rename_i z; exact absurd rfl z
  · rw [List.getElem?_set_ne h] at e
    obtain ⟨v, h1, h2⟩ := s.at_ j d e
    exact ⟨v, by rw [List.getElem?_set_ne h]; exact h1, h2⟩
abbrev DSuite := Addr → Value → Option Addr → DS
def dTryAs (sub : Value → Option Bool) (i : Nat) (tb : DS) (ts : DSuite) : DS := fun D E M => tb { nx := D.nx, rt := D.rt, bk := D.bk, ct := D.ct, xc := fun cls d E' M' => ∃ b, sub cls = some b ∧
  (b = true → ∀ a, M' a = none → ts a cls d { nx := fun E2 M2 => D.nx (E2.set i none) M2, rt := D.rt, bk := fun E2 M2 => D.bk (E2.set i none) M2, ct := fun E2 M2 => D.ct (E2.set i none) M2 } (E'.set i (some (.ref a))) M') ∧ (b = false → D.xc cls d E' M') } E M
section
variable {X : Cx} {x n : Str} {c : Value} {i : Nat} {body suite : List Stmt} {b₀ : Stmt} {np pos pos' : Pos} {tb : DS} {ts : DSuite}
theorem rs_tryAs (hs : X.stack = X.env :: X.outer) (hf : X.env.frame = some X.env.locals) (hN : X.N.Nodup) (hi : X.N[i]? = some n) (hln : X.env.kindOf n = some .local) (hc : Names X x c)
    (hb : ∀ (pn : List (Addr × Obj)) (xe : Value → Shared → Prop), PassesOwn (model X.prog X.w) X.A X.env xe → RSs (X.tr pn xe) body tb)
    (hsu : ∀ (a : Addr) (oe : Obj) (cls : Value) (d : Option Addr) (pn : List (Addr × Obj)), Zc cls d oe → (∃ vs, oe.data = .fields vs) → RSs (X.suite a ((a, oe) :: pn)) (b₀ :: suite) (ts a cls d)) :
    RS X (.Try body [.ExceptHandler (some (.Name x np)) (some n) (b₀ :: suite) pos'] [] [] pos) (dTryAs (fun cls => PySem.W.exmOne X.K cls c) i tb ts) := fun W tk =>
  ps_imp (ps_try_as (tb := fun W' => tsD X.K X.w W' tb) (ts := fun a cls d => tsD X.K X.w (fun _ _ _ _ => False) (ts a cls d)) hs hf hN hi hln hc tk
    (fun W' pn xe tk' po => hb pn xe po W' tk') (fun a oe cls d pn hz hff => hsu a oe cls d pn hz hff _ takes0)) fun D σ H ⟨E, M, D', sl, rm, h, kn⟩ =>
    ⟨E, M, _, sl, rm, h, ⟨kn.nx, kn.rt, kn.bk, kn.ct, fun cls d σ' H' E' M' t sl' rm' q => by
      obtain ⟨b, hb1, yes, no⟩ := q
      refine ⟨b, hb1, fun hb a ha => ?_, fun hb => kn.xc cls d σ' H' E' M' t sl' rm' (no hb)⟩
      exact ⟨E'.set i (some (.ref a)), M', _, sl'.set (.ref a) i, rm', yes hb a (rm'.free ha),
        ⟨fun σ2 H2 E2 M2 t2 sl2 rm2 q2 => kn.nx _ _ _ _ (t.trans t2) (sl2.unset i) rm2 q2, fun v H2 d2 M2 t2 rm2 r2 q2 => kn.rt _ _ _ _ (t.trans t2) rm2 r2 q2,
          fun σ2 H2 E2 M2 t2 sl2 rm2 q2 => kn.bk _ _ _ _ (t.trans t2) (sl2.unset i) rm2 q2, fun σ2 H2 E2 M2 t2 sl2 rm2 q2 => kn.ct _ _ _ _ (t.trans t2) (sl2.unset i) rm2 q2, fun _ _ _ _ _ _ _ _ _ z => z.elim⟩⟩⟩⟩
end
/-! ### a field of the exception -/
def dXf (a : Addr) (cls : Value) (d : Option Addr) (C : Addr) (f : Str) (de : DE) : DE := fun E M Q => de E M fun x M1 => x = .ref a ∧ cls = .ref C ∧ ∃ dd fs v, d = some dd ∧ M1 dd = some (.xd fs) ∧ fs.lookup f = some v ∧ Q v M1
theorem re_xf {X : Cx} {a C : Addr} {oe : Obj} {cls : Value} {d : Option Addr} {pn : List (Addr × Obj)} {e : Expr} {de : DE} {pos : Pos} {n : Str} (T : XfC X.K C) (hno : PySem.W.findIn X.K (.ref C) n = some none)
    (hz : Zc cls d oe) (hf : ∃ vs, oe.data = .fields vs) (he : RE (X.suite a ((a, oe) :: pn)) e de) (hb : attributeBase e n X.env (eval e X.env) = eval e X.env := by rfl) : RE (X.suite a ((a, oe) :: pn)) (.Attribute e n pos) (dXf a cls d C n de) :=
  pe_imp (pe_xf T hno hz hf he hb) fun σ H Q ⟨E, M, Q', sl, rm, h, k⟩ => ⟨E, M, _, sl, rm, h, fun v H1 dv M1 t1 rm1 r1 q1 => by
    obtain ⟨rfl, hcl, dd, fs, u, hd, hm, hl, q⟩ := q1
    obtain ⟨gs, hH, rf⟩ := rm1 dd _ hm
    obtain ⟨y, hy, ry⟩ := rf.lookup hl
    exact ⟨r1.inv_ref, hcl, dd, gs, y, hd, hH, hy, k _ _ _ _ t1 rm1 ry q⟩⟩
end DH

set_option Elab.async false
set_option linter.all false
set_option autoImplicit false
set_option maxRecDepth 100000
set_option maxHeartbeats 4000000
/-! Deep readings: isinstance of a caught exception that has a dict. -/
namespace DH
open PySem PySem.Spec PyProof.Rows PySem.Calls PySem.W L2
section
variable {prog : Program} {w : World} {A : Around} {E : Value → Shared → Prop} {K : Frag}
/-- `__class__` of an exception with a dict -/
theorem exc_class {z D : Addr} {oz od : Obj} {S : Shared} {Q : Option Value → Shared → Prop} (c : ExcC K D) (kin : K.In S.heap) (at_ : InstAt S.heap z oz D (some od)) (done : Q (some (.ref D)) { S with toks := S.toks + 1 }) :
    wpAny (model prog w) A (getAttr? (.ref z) "__class__") Q E S := by
  have cls : (clsIn K D).isSome = true := by
    obtain ⟨cd, q, _⟩ := any_some c.hd
    rw [q]; rfl
  have fo : findObj K D (some od) "__class__" = _ := findObj_data cls c.ha c.hn c.ht
  obtain ⟨hh, gg, dd, tt, oo⟩ := S
  have tyL := at_.type (M := model prog w)
  have gaL := looks_findIn (M := model prog w) kin c.hg
  have gtL := looks_findIn (M := model prog w) kin c.hk
  have foL := looks_find (M := model prog w) kin at_ fo
  have isE : Looks (model prog w) hh (isInstance (.ref z) (.type "BaseException")) true := tyL.andThen (looks_subIn kin c.hs)
  have b2 : (Value.builtin "BaseException.__getattribute__" == Value.builtin "object.__getattribute__") = false := by decide +kernel
  have b1 : (onTheHeap (Value.ref D) && Value.builtin "BaseException.__getattribute__" == Value.builtin "object.__getattribute__") = false := by
    rw [b2]; rfl
  unfold getAttr? getAttrBy? getAttrBy
  refine wpAny_bind (wpAny_mkText ?_)
  refine wpAny_bind (wpAny_attempt (wpAny_holding ?_))
  refine wpAny_bind (tyL.at (wpAny_bind (gaL.at ?_)))
  show wpAny _ _ (if (onTheHeap (Value.ref D) && Value.builtin "BaseException.__getattribute__" == Value.builtin "object.__getattribute__") = true then _ else _) _ _ _
  rw [b1, if_neg Bool.false_ne_true]
  unfold getAttrByItsOwn hookBefore
  refine wpAny_bind ?_
  have onH : onTheHeap (Value.ref D) = true := rfl
  rw [if_pos onH]
  refine gtL.at (wpAny_bind (wpAny_attempt (wpAny_holding ?_)))
  unfold callGetattribute
  rw [show (false && onTheHeap (Value.builtin "BaseException.__getattribute__")) = false from rfl, if_neg Bool.false_ne_true]
  unfold boundAndCalled
  rw [PySem.F.excAttr_ValueError.ga.bind (.ref z)]
  refine wpAny_bind (wpAny_pure ?_)
  show wpAny _ _ (call (.builtin "BaseException.__getattribute__") [.ref z, .str "__class__" tt]) _ _ _
  refine wpAny_call ?_
  refine codeAny_call_builtin PySem.F.excAttr_ValueError.ga.plain PySem.F.entry_bexc_ga ?_
  have ar := PySem.F.args_bexc_ga (.ref z) (.str "__class__" tt)
  refine @check_slot (model prog w) _ _ ⟨hh, gg, dd, tt + 1, oo⟩
    "BaseException.__getattribute__" "BaseException" "__getattribute__"
    (.ref z) [.str "__class__" tt] [] _ (by decide +kernel)
    (by decide +kernel) isE ar ?_
  unfold Builtin.«object.__getattribute__»
  refine wpAny_bind (wpAny_of_eq (a := ((Value.ref z : Value), [Value.str "__class__" tt])) (by first | rfl | (simp only [slotArgs]; rfl)) ?_)
  refine wpAny_bind (wpAny_pure ?_)
  refine wpAny_bind (tyL.at (wpAny_bind (foL.at ?_)))
  show wpAny _ _ (holding [Value.builtin "object.__class__"] (call (.builtin "getset_descriptor.__get__") [.builtin "object.__class__", .ref z, .ref D]) >>= ret) _ _ _
  refine wpAny_bind (wpAny_holding (wpAny_call ?_))
  refine class_get (s := ⟨hh, gg, dd, tt + 1, oo⟩) (ox := oz) (od := some od) kin at_ c.hm (wpAny_pure ?_)
  show wpAny _ _ (handedOut (.ref D)) _ _ _
  rw [handedOut_of (v := .ref D) rfl]
  first
    | exact wpAny_pure (wpAny_pure done)
    | exact wpAny_pure done
    | exact wpAny_pure (wpAny_bind (wpAny_pure (wpAny_pure done)))
end
end DH

set_option Elab.async false
set_option linter.all false
set_option autoImplicit false
set_option maxRecDepth 100000
set_option maxHeartbeats 4000000
/-! Deep readings: isinstance of a caught exception that has a dict, the rule. -/
namespace DH
open PySem PySem.Spec PyProof.Rows PySem.Calls PySem.W L2
section
variable {K : Frag}
theorem exc_obj_at {D : Addr} (c : ExcC K D) : ∃ o cd, K.lookup D = some o ∧ o.data = .cls cd := by
  obtain ⟨cd, q, _⟩ := any_some c.hd
  unfold clsIn at q
  split at q
  · rename_i e
    exact ⟨_, _, e, rfl⟩
  · cases q
/-- what is told of e, by its class -/
theorem exc_kit {z D : Addr} {oz od : Obj} (c : ExcC K D) : KitX K (.ref z) (.ref D) (fun h => InstAt h z oz D (some od)) where
  ty := fun M h _ at_ => at_.type
  it := fun M h kin _ => by
    obtain ⟨o, cd, e, ed⟩ := exc_obj_at c
    intro A Q E s keep q
    unfold isType loadHead
    refine wpAny_bind (wpAny_loadPart (keep _ _ (kin _ _ e)) (wpAny_pure ?_))
    rw [ed]
    exact q
  ne := fun h tp dd its n sl kin htp => by
    obtain ⟨o, cd, e, ed⟩ := exc_obj_at c
    cases hq : (Value.ref D == Value.ref tp) with
    | false => rfl
    | true =>
      have same : D = tp := Value.ref.inj (eq_of_beq hq)
      rw [same] at e
      have two := kin _ _ e
      rw [htp] at two
      cases two
      cases ed
  ca := fun kin at_ done => exc_class c kin at_ done
end
/-- isinstance(e, c) by values, e caught, of class D, its dict at dd -/
def rIsX (K : Frag) (D a : Addr) (dd : Option Addr) : List V → Hp → VK → Prop := fun xs H Q => ∃ (c : V) (cv : Value) (b : Bool) (d : Addr) (fs : List (Str × V)), xs = [.ref a, c] ∧ (∀ u, RelV c u → u = cv) ∧ kitOne K (.ref D) cv = some b ∧ dd = some d ∧ H d = some (.xd fs) ∧ Q (.bl b) H
theorem call_isX {X : Cx} {a D : Addr} {oe : Obj} {dd : Option Addr} {pn : List (Addr × Obj)} (c : ExcC X.K D) (hz : Zc (.ref D) dd oe) (hf : ∃ vs, oe.data = .fields vs) : CallR (X.suite a ((a, oe) :: pn)) (.builtin "isinstance") (rIsX X.K D a dd) :=
  fun pins s σ H xs us Q I r h => by
    obtain ⟨v, cv, b, d, fs, rfl, hcv, hk, rfl, hd, q⟩ := h
    obtain ⟨u1, u2, rfl, r1, r2⟩ : ∃ u1 u2, us = [u1, u2] ∧ RelV (.ref a) u1 ∧ RelV v u2 := by
      cases r with
      | cons x y =>
        cases y with
        | cons x2 y2 => cases y2; exact ⟨_, _, rfl, x, x2⟩
    have e1 : u1 = Value.ref a := r1
    have e2 := hcv _ r2
    subst e1
    subst e2
    have got := (I.pin (a, oe) (List.mem_append_left _ List.mem_cons_self)).1
    obtain ⟨vs, hv⟩ := hf
    obtain ⟨mA, hns, _⟩ : ObjOk X.prog X.w H s.heap d (.xd fs) := I.hok d _ hd
    obtain ⟨od, ho, _⟩ := lookIn_ns hns
    have at_ : InstAt s.heap a oe D (some od) := ⟨got, hz.1, by unfold notCls; rw [hv] <;> rfl, by rw [hz.2]; exact ho⟩
    exact kia_one (exc_kit c) I.kIn at_ hk (fun z => nomatch z) fun tk => ⟨.bl b, H, I.kept (t' := tk) fun _ _ z => z, rfl, q⟩
/-- isinstance(e, c), deep: e caught, of the class C -/
def dIsX (kit : Value → Option Bool) (a : Addr) (cls : Value) (dd : Option Addr) (C : Addr) (de : DE) : DE := fun E M Q => cls = .ref C ∧ de E M fun x M1 => x = .ref a ∧ ∃ (d : Addr) (fs : List (Str × DH.D)) (b : Bool), dd = some d ∧ M1 d = some (.xd fs) ∧ kit (.ref C) = some b ∧ Q (.bl b) M1
theorem re_isX {X : Cx} {a C : Addr} {oe : Obj} {cls : Value} {dd : Option Addr} {pn : List (Addr × Obj)} {e c1 : Expr} {de : DE} {p pos : Pos} {u : V} {cv : Value} (c : ExcC X.K C) (hz : Zc cls dd oe) (hf : ∃ vs, oe.data = .fields vs)
    (he : RE (X.suite a ((a, oe) :: pn)) e de) (hc : PE (X.suite a ((a, oe) :: pn)) c1 (tC u)) (hcv : ∀ y, RelV u y → y = cv) (hg : Gl (X.suite a ((a, oe) :: pn)) "isinstance") (hm : X.mg "isinstance" = none)
    (h1 : starEach [e, c1] X.env = (false, eval e X.env) :: starEach [c1] X.env := by rfl) (h2 : starEach [c1] X.env = (false, eval c1 X.env) :: starEach [] X.env := by rfl) (hpl : (backTo pos (starEach [c1] X.env)).any (·.1) = false := by rfl) :
    RE (X.suite a ((a, oe) :: pn)) (.Call (.Name "isinstance" p) [e, c1] [] pos) (dIsX (fun t => kitOne X.K t cv) a cls dd C de) := by
  by_cases hcls : cls = .ref C
  · subst hcls
    refine pe_imp (pe_callB (call_isX c hz hf) hg hm boot_isinstance (pa_cons he (pa_cons hc pa_nil h2) h1) (by decide) (by decide) h1 hpl) fun σ H Q hh => ?_
    obtain ⟨E, M, Q', sl, rm, h, k⟩ := hh
    refine ⟨E, M, _, sl, rm, h.2, fun v H1 d0 M1 t1 rm1 r1 q1 => ?_⟩
    obtain ⟨rfl, d, fs, b, rfl, hd, hk, q⟩ := q1
    obtain ⟨gs, hH, rf⟩ := rm1 d _ hd
    exact ⟨u, cv, b, d, gs, by rw [r1.inv_ref], hcv, hk, rfl, hH, (k.tx t1).now rm1 (.bl _) q⟩
  · exact ⟨fun pins s σ H Q I hh => by
      obtain ⟨E, M, Q', sl, rm, h, k⟩ := hh
      exact absurd h.1 hcls⟩
/-! ### a class whose __init__ may raise -/
structure CalIX (P : Program) (w : World) (K : PySem.W.Frag) (mg : Str → Option Value) (base : Heap) (k : Nat) (x : Str) (C : Addr) (ps : List Str) (sp : DSp) : Prop where
  ex : ∃ f fd, FnOk P w K mg base (L2.CX P w) k f fd ps (spD K w sp) ∧ Mk K C f ∧ mg x = some (.ref C) ∧ Binds K fd ps []
theorem CalIX.mono {P : Program} {w : World} {K : PySem.W.Frag} {mg : Str → Option Value} {base : Heap} {j k : Nat} {x : Str} {C : Addr} {ps : List Str} {sp : DSp} (c : CalIX P w K mg base j x C ps sp) (h : j ≤ k) : CalIX P w K mg base k x C ps sp :=
  let ⟨f, fd, F, r⟩ := c.ex; ⟨f, fd, F.mono h, r⟩
end DH

set_option Elab.async false
set_option linter.all false
set_option autoImplicit false
set_option maxRecDepth 100000
set_option maxHeartbeats 4000000
/-! Deep readings: a class whose __init__ may raise, the rules; __init__ of own exceptions. -/
namespace DH
open PySem PySem.Spec PyProof.Rows L2
section
variable {X : Cx} {pos cpos p : Pos} {k : Nat} {x : Str} {C : Addr} {ps : List Str} {sp : DSp} {e : Expr} {es : List Expr} {da : DA}
end
/-! ### the __init__ of an own exception: Base.__init__(self, text), self.f = x -/
abbrev rStrAdd : R2 := fun x y H Q => ∃ i j, x = .str i ∧ y = .str j ∧ i.length + j.length ≤ sizeLine ∧ Q (.str (i ++ j)) H
abbrev tStr1 : TE := tCB (fun xs H Q => ∃ i, xs = [.int i] ∧ i.natAbs.log2 < 1920 ∧ Q (.str (toString i)) H) (tCons (tVar 1) tNil)
def tExcInt (K : PySem.W.Frag) (msg f : Str) : TS := tSeq (tDrop (tVeI K (tCons (tVar 0) (tCons (tOp rStrAdd (tC (.str msg)) tStr1) tNil)))) (tOst K f (tVar 0) (tVar 1))
def okNat (v : V) : Prop := ∃ n : Nat, v = .int n ∧ n ≤ 1000
def okNatD (d : D) : Prop := ∃ n : Nat, d = .int n ∧ n ≤ 1000
theorem okNat_rep {K : PySem.W.Frag} {w : World} (H : Hp) (d : D) (v : V) (r : Rep K w H d v) (h : okNatD d) : okNat v := by
  obtain ⟨i, rfl, hl⟩ := h
  exact ⟨i, r.inv_int, hl⟩
theorem str_short : ∀ n : Fin 1001, (((toString ((n.1 : Nat) : Int)) : String) : Str).length ≤ 10 := by decide +kernel
theorem exc_pure {K : PySem.W.Frag} {C : Addr} {msg f a1 a2 : Str} (hm : msg.length ≤ 1000) (vs : List V) (H : Hp) (Q : VK) (E : XK) (h : spExc K C f okNat vs H Q E) : tExcInt K msg f { nx := fun _ H' => Q .non H', rt := Q } (start [a1, a2] vs) H := by
  obtain ⟨a, v, rfl, ⟨n, rfl, hn⟩, T, no, ha, q⟩ := h
  have hs := str_short ⟨n, by omega⟩
  have hlog : ((n : Int).natAbs).log2 < 1920 := by
    rw [Int.natAbs_natCast]
    have := Nat.log2_le_self n
    omega
  refine ⟨V.ref a, rfl, V.int n, rfl, n, rfl, hlog, _, _, rfl, rfl, ?_, a, C, _, rfl, by show 1 ≤ 1000; decide, T, ha, ?_⟩
  · exact Nat.le_of_lt (Nat.lt_of_le_of_lt (Nat.add_le_add hm hs) (by decide))
  · exact ⟨_, rfl, _, rfl, a, C, rfl, T, no, .inl ⟨ha, fun dx hdx hne => q dx hdx hne⟩⟩
theorem exc_mk {P : Program} {w : World} {K : PySem.W.Frag} {mg : Str → Option Value} {base : Heap} {x m qual : Str} {st : Stmt} {C : Addr} {fd : FuncData} {a1 a2 msg f : Str} {k : Nat} (hm : msg.length ≤ 1000) (e : ExcF K C f)
    (F : FunD K m qual (defArgs st) (defBody st) (defScope st) [] [] (He.ma K C "__init__") fd) (S : FnScope [a1, a2] [a1, a2] (defScope st)) (bd : ∀ (kV doc pm : Value) (an : Option Addr) (cdv ct : Value) (us : List Value), us.length = 2 → bindArgs (PySem.W.fnOf m qual (defArgs st) (defBody st) (defScope st) .none kV doc pm an cdv ct) ⟨us, []⟩ = pure ([a1, a2].zip us))
    (hmg : mg x = some (.ref C))
    (hb : ∀ (cdv : Value) (A : Around) (outer : List Env) (s : Shared) (H : Hp) (E : XK), Room k (A.deeper (envOfC qual (defScope st) s.heap.objs.size (He.ma K C "__init__") cdv)) → PSs (cxOf CX0 P w K mg base [a1, a2] qual (defScope st) (He.ma K C "__init__") cdv A outer s H E).nox (defBody st) (tExcInt K msg f)) : CalE P w K mg base (k + 1) x C f okNat := by
  refine ⟨_, fd, [a1, a2], F.ok S (fun vs H Q E h => ?_) (fun cdv A outer s H vs Q E hr h => ⟨_, (hb cdv A outer s H E hr).nox, exc_pure hm vs H Q E h⟩), e.init, e.ty, F.bindsN bd, hmg, e.T, e.no⟩
  obtain ⟨a, v, rfl, _⟩ := h
  rfl
end DH

set_option Elab.async false
set_option linter.all false
set_option autoImplicit false
set_option maxRecDepth 100000
set_option maxHeartbeats 2000000
/-! Deep readings: facts of caught exceptions, from the head. -/
namespace DH
open PySem PySem.Spec PyProof.Rows L2
def exccB (K : PySem.W.Frag) (D : Addr) : Bool := He.eqO (PySem.W.findIn K (.ref D) "__getattribute__") (some (some (.builtin "BaseException.__getattribute__"))) && (He.eqO (PySem.W.findIn K (.ref D) "__getattr__") (some none) && (decide (PySem.W.subIn K (.ref D) (.type "BaseException") = some true) && (PySem.W.hasDictIn K D &&
  (He.eqO (PySem.W.findIn K (.ref D) "__class__") (some (some (.builtin "object.__class__"))) && (He.eqO (PySem.W.specialIn K (.builtin "object.__class__") "__get__") (some (some (.builtin "getset_descriptor.__get__"))) && (decide (PySem.W.takesIn K (.builtin "object.__class__") = some true) && decide (PySem.W.mroIn K D (.type "object") = some true)))))))
theorem exccB_ok {K : PySem.W.Frag} {D : Addr} (h : exccB K D = true) : ExcC K D := by
  unfold exccB at h
  simp only [Bool.and_eq_true, decide_eq_true_eq] at h
  obtain ⟨h1, h2, h3, h4, h5, h6, h7, h8⟩ := h
  exact ⟨He.eqO_ok h1, He.eqO_ok h2, h3, h4, He.eqO_ok h5, He.eqO_ok h6, h7, h8⟩
/-- all that is asked of an exception class that is caught -/
structure XcF (K : PySem.W.Frag) (C : Addr) (f : Str) : Prop where
  xf : XfC K C
  ec : ExcC K C
  no : PySem.W.findIn K (.ref C) f = some none
def xcB (K : PySem.W.Frag) (C : Addr) (f : Str) : Bool := xfB K C && (exccB K C && He.eqO (PySem.W.findIn K (.ref C) f) (some none))
theorem xcB_ok {K : PySem.W.Frag} {C : Addr} {f : Str} (h : xcB K C f = true) : XcF K C f := by
  unfold xcB at h
  simp only [Bool.and_eq_true] at h
  obtain ⟨h1, h2, h3⟩ := h
  exact ⟨xfB_ok h1, exccB_ok h2, He.eqO_ok h3⟩
/-! ### a Hook that sees the interpreter's own statics too -/
def asY (g : Addr → Option Obj) (n : Nat) : List Addr := He.asD g n ++ [cStatics]
def obsY (n : Nat) (fa : List He.Fa) (fn : List He.DefD) (ts : List He.Tab) (ex : PySem.W.Frag → Bool) (g : Addr → Option Obj) : He.AlX := (He.obsT fa fn ts (He.frT g (asY g n)), ex (He.frT g (asY g n)))
def hookY (n : Nat) (fa : List He.Fa) (fn : List He.DefD) (ts : List He.Tab) (ex : PySem.W.Frag → Bool) : PySem.W.Hook where
  α := He.AlX
  obs := fun s => obsY n fa fn ts ex s.heap.get?
  val := fun w => He.valX fn ts w
  says := fun w h => ∃ K : PySem.W.Frag, K.In h ∧ He.SaysX fa fn ts [] ex w h K
  of := fun w s e => ⟨_, He.frT_in, ⟨congrArg (fun z : He.AlX => z.1) e, congrArg (fun z : He.AlX => z.2) e, fun _ h => by simp at h, fun _ h => by simp at h, fun _ h => by simp at h⟩⟩
  keeps := fun _ _ _ ⟨K, hK, c⟩ k => ⟨K, PySem.W.Frag.In.keeps hK k, ⟨c.t, c.more, c.hd, c.out, fun p hp => k _ _ (c.empty p hp)⟩⟩
theorem obsY_eq {n : Nat} {fa : List He.Fa} {fn : List He.DefD} {ts : List He.Tab} {ex : PySem.W.Frag → Bool} {g : Addr → Option Obj} {s : Shared} (h : ∀ a, g a = s.heap.get? a) : obsY n fa fn ts ex g = (hookY n fa fn ts ex).obs s := by
  have e : g = s.heap.get? := funext h
  rw [e] <;> rfl
def oB (o : Option Bool) (b : Bool) : Bool := decide (o = some b)
theorem oB_ok {o : Option Bool} {b : Bool} (h : oB o b = true) : o = some b := of_decide_eq_true h
end DH

set_option Elab.async false
set_option linter.all false
set_option autoImplicit false
set_option maxRecDepth 100000
set_option maxHeartbeats 2000000
/-! Deep readings: is, methods, all, calls that may raise (of any kind), exceptions with a text. -/
namespace DH
open PySem PySem.Spec PyProof.Rows L2
/-! ### is, is not -/
def nonD : D → Bool
  | .non => true
  | _ => false
def oIs (neg : Bool) : D2 := fun x y M Q => match y with
  | .non => Q (.bl (if neg then !nonD x else nonD x)) M
  | .bl b => ∃ a, x = .bl a ∧ Q (.bl (if neg then !decide (a = b) else decide (a = b))) M
  | _ => False
def rIsA (neg : Bool) : R2 := fun x y H Q => (y = .non ∧ Q (.bl (if neg then !decide (x = .non) else decide (x = .non))) H) ∨ ∃ a b : Bool, x = .bl a ∧ y = .bl b ∧ Q (.bl (if neg then !decide (a = b) else decide (a = b))) H
theorem op_isA {X : Cx} : OpR X (compareOp .Is) (rIsA false) := OpR.or op_isN op_isBl
theorem op_isnotA {X : Cx} : OpR X (compareOp .IsNot) (rIsA true) := OpR.or op_notN op_notBl
theorem non_rep {K : PySem.W.Frag} {w : World} {H : Hp} {d : D} {v : V} (r : Rep K w H d v) : decide (v = .non) = nonD d := by
  cases r <;> simp [nonD]
theorem rr_is {K : PySem.W.Frag} {w : World} {neg : Bool} : R2R K w (rIsA neg) (oIs neg) := fun dx dy M Q' x y H Q rm rx ry h k => by
  unfold oIs at h
  split at h
  · exact .inl ⟨ry.inv_non, by rw [non_rep rx]; exact k.now rm (.bl _) h⟩
  · obtain ⟨a, rfl, q⟩ := h
    exact .inr ⟨a, _, rx.inv_bl, ry.inv_bl, k.now rm (.bl _) q⟩
  · exact h.elim
/-! ### methods -/
structure CalM (P : Program) (w : World) (K : PySem.W.Frag) (mg : Str → Option Value) (base : Heap) (k : Nat) (C : Addr) (m : Str) (ps : List Str) (sp : DSp) : Prop where
  ex : ∃ f fd, FnOk P w K mg base CX0 k f fd ps (spD K w sp) ∧ Cls K C ∧ Meth K C m f ∧ Binds K fd ps []
theorem CalM.mono {P : Program} {w : World} {K : PySem.W.Frag} {mg : Str → Option Value} {base : Heap} {j k : Nat} {C : Addr} {m : Str} {ps : List Str} {sp : DSp} (c : CalM P w K mg base j C m ps sp) (h : j ≤ k) : CalM P w K mg base k C m ps sp :=
  let ⟨f, fd, F, r⟩ := c.ex; ⟨f, fd, F.mono h, r⟩
structure CalMX (P : Program) (w : World) (K : PySem.W.Frag) (mg : Str → Option Value) (base : Heap) (k : Nat) (C : Addr) (m : Str) (ps : List Str) (sp : DSp) : Prop where
  ex : ∃ f fd, FnOk P w K mg base (L2.CX P w) k f fd ps (spD K w sp) ∧ Cls K C ∧ Meth K C m f ∧ Binds K fd ps []
theorem CalMX.mono {P : Program} {w : World} {K : PySem.W.Frag} {mg : Str → Option Value} {base : Heap} {j k : Nat} {C : Addr} {m : Str} {ps : List Str} {sp : DSp} (c : CalMX P w K mg base j C m ps sp) (h : j ≤ k) : CalMX P w K mg base k C m ps sp :=
  let ⟨f, fd, F, r⟩ := c.ex; ⟨f, fd, F.mono h, r⟩
def dMeth (C : Addr) (m : Str) (sp : DSp) (do_ : DE) (da : DA) : DE := fun E M Q => do_ E M fun x M1 => ∃ a fs, x = .ref a ∧ M1 a = some (.ins C fs) ∧ fs.lookup m = none ∧ da E M1 fun ds M2 => sp (.ref a :: ds) M2 Q EX0
/-- an expression that may raise: what is wanted of its value, of an exception -/
abbrev DXE := DEnv → Mm → DQ → DX → Prop
def dCallX (sp : DSp) (da : DA) : DXE := fun E M Q Ex => da E M fun ds M1 => sp ds M1 Q Ex
def dMethX (C : Addr) (m : Str) (sp : DSp) (do_ : DE) (da : DA) : DXE := fun E M Q Ex => do_ E M fun x M1 => ∃ a fs, x = .ref a ∧ M1 a = some (.ins C fs) ∧ fs.lookup m = none ∧ da E M1 fun ds M2 => sp (.ref a :: ds) M2 Q Ex
def txD (K : PySem.W.Frag) (w : World) (W : WX) (dx : DXE) : TE := fun σ H Q => ∃ E M Q' Ex, Sl K w H σ E ∧ Rm K w H M ∧ dx E M Q' Ex ∧ Kc K w H Q' Q ∧ ∀ cls d H' M', Tx K H H' → Rm K w H' M' → Ex cls d M' → W cls d σ H'
abbrev RX (X : Cx) (e : Expr) (dx : DXE) : Prop := ∀ W : WX, L2.Takes X W → PE X e (txD X.K X.w W dx)
def dDropR (dx : DXE) : DS := fun D E M => dx E M (fun _ M2 => D.nx E M2) (fun cls d M2 => D.xc cls d E M2)
section
variable {X : Cx} {pos cpos apos : Pos} {k : Nat} {x m : Str} {C : Addr} {ps : List Str} {sp : DSp} {p : Pos} {e o : Expr} {es : List Expr} {da : DA} {do_ : DE} {dx : DXE}
theorem re_meth {pl : Sem Bool} (c : CalM X.prog X.w X.K X.mg X.base k C m ps sp) (hr : Room k X.A) (ho : RE X o do_) (ha : RA X (e :: es) da)
    (hst : starEach (e :: es) X.env = (false, eval e X.env) :: starEach es X.env := by rfl) (hpl : (backTo pos (starEach es X.env)).any (·.1) = false := by rfl)
    (ht : eval (.Call (.Attribute o m apos) (e :: es) [] pos) X.env = (do
      let ov ← eval o X.env
      standAt apos.atName
      let (f, first) ← holding [ov] (getMethod ov m pl)
      callWith pos f first (backTo pos (starEach (e :: es) X.env)) (backToKw pos (keywordEach [] X.env))) := by rfl) : RE X (.Call (.Attribute o m apos) (e :: es) [] pos) (dMeth C m sp do_ da) := by
  obtain ⟨f, fd, F, cC, cM, hb⟩ := c.ex
  refine pe_imp (pe_meth (pl := pl) ho cC cM F hr hb .nil pass0 ha hst hpl ht) fun σ H Q ⟨E, M, Q', sl, rm, h, kc⟩ => ⟨E, M, _, sl, rm, h, fun v H1 d M1 t1 rm1 r1 g => ?_⟩
  obtain ⟨a, fs, rfl, ea, l, q⟩ := g
  obtain ⟨dd, gs, e1, rf⟩ := rm1 a _ ea
  refine ⟨a, dd, gs, r1.inv_ref, e1, rf.lookup_none l, E, M1, _, sl.mono t1, rm1, q, fun vs H2 ds M2 t2 rm2 r2 q2 => ?_⟩
  show spD X.K X.w sp (v :: (vs ++ [])) H2 Q _
  rw [List.append_nil, r1.inv_ref]
  exact ⟨_, M2, Q', EX0, .cons (.ref a) r2, rm2, q2, kc.tx (t1.trans t2), fun _ _ _ _ _ _ z => z.elim⟩
theorem re_meth0 {pl : Sem Bool} (c : CalM X.prog X.w X.K X.mg X.base k C m ps sp) (hr : Room k X.A) (ho : RE X o do_)
    (ht : eval (.Call (.Attribute o m apos) [] [] pos) X.env = (do
      let ov ← eval o X.env
      standAt apos.atName
      let (f, first) ← holding [ov] (getMethod ov m pl)
      callWith pos f first (backTo pos (starEach [] X.env)) (backToKw pos (keywordEach [] X.env))) := by rfl) : RE X (.Call (.Attribute o m apos) [] [] pos) (dMeth C m sp do_ dNil) := by
  obtain ⟨f, fd, F, cC, cM, hb⟩ := c.ex
  refine pe_imp (pe_meth0 (pl := pl) ho cC cM F hr hb .nil pass0 ht) fun σ H Q ⟨E, M, Q', sl, rm, h, kc⟩ => ⟨E, M, _, sl, rm, h, fun v H1 d M1 t1 rm1 r1 g => ?_⟩
  obtain ⟨a, fs, rfl, ea, l, q⟩ := g
  obtain ⟨dd, gs, e1, rf⟩ := rm1 a _ ea
  refine ⟨a, dd, gs, r1.inv_ref, e1, rf.lookup_none l, ?_⟩
  show spD X.K X.w sp (v :: ([] ++ [])) H1 Q _
  rw [List.append_nil, r1.inv_ref]
  exact ⟨_, M1, Q', EX0, .cons (.ref a) .nil, rm1, q, kc.tx t1, fun _ _ _ _ _ _ z => z.elim⟩
/-- a method that may raise -/
theorem rx_meth {pl : Sem Bool} (c : CalMX X.prog X.w X.K X.mg X.base k C m ps sp) (hr : Room k X.A) (ho : RE X o do_) (ha : RA X (e :: es) da)
    (hst : starEach (e :: es) X.env = (false, eval e X.env) :: starEach es X.env := by rfl) (hpl : (backTo pos (starEach es X.env)).any (·.1) = false := by rfl)
    (ht : eval (.Call (.Attribute o m apos) (e :: es) [] pos) X.env = (do
      let ov ← eval o X.env
      standAt apos.atName
      let (f, first) ← holding [ov] (getMethod ov m pl)
      callWith pos f first (backTo pos (starEach (e :: es) X.env)) (backToKw pos (keywordEach [] X.env))) := by rfl) : RX X (.Call (.Attribute o m apos) (e :: es) [] pos) (dMethX C m sp do_ da) := fun W tk => ⟨fun pins s σ H Q I h => by
  obtain ⟨f, fd, F, cC, cM, hb⟩ := c.ex
  obtain ⟨E, M, Q', Ex, sl, rm, h, kc, kx⟩ := h
  refine PySem.W.methodCall_KW (pl := pl) (thn (ho.run pins s σ H (fun v H1 => Tx X.K H H1 ∧ ∃ M1 d, Rm X.K X.w H1 M1 ∧ Rep X.K X.w H1 d v ∧ ∃ a fs, d = .ref a ∧ M1 a = some (.ins C fs) ∧ fs.lookup m = none ∧ da E M1 fun ds M2 => sp (.ref a :: ds) M2 Q' Ex) I ⟨E, M, _, sl, rm, h, fun v H1 d M1 t1 rm1 r1 g => ⟨t1, M1, d, rm1, r1, g⟩⟩) fun u s1 g => ?_) ht
  obtain ⟨v, H1, J, rv, t1, M1, d, rm1, r1, a, fs, rfl, ea, l, q⟩ := g
  obtain ⟨dd, gs, e1, rf⟩ := rm1 a _ ea
  have ev := r1.inv_ref
  subst ev
  obtain rfl : u = Value.ref a := rv
  refine getmeth_ok J e1 cC cM (rf.lookup_none l) ?_
  refine PySem.W.callWith_K (first := [.ref a]) (h₀ := X.base) J.ok.mod.kin cM.kp (thn (ha.run pos pins s1 σ H1 (fun vs H2 => Tx X.K H1 H2 ∧ ∃ M2 ds, Rm X.K X.w H2 M2 ∧ RepL X.K X.w H2 ds vs ∧ sp (.ref a :: ds) M2 Q' Ex) J ⟨E, M1, _, sl.mono t1, rm1, q, fun vs H2 ds M2 t2 rm2 r2 q2 => ⟨t2, M2, ds, rm2, r2, q2⟩⟩) fun us s2 g2 => ?_) hst hpl
  obtain ⟨vs, H2, J2, rr, t2, M2, ds, rm2, r2, q2⟩ := g2
  refine ⟨J2.kIn, run_fnS (us := .ref a :: us) (vs := .ref a :: vs) (E := WE W) F hr hb (fun pins => passAt tk σ pins) J2 (.cons rfl rr) ?_⟩
  exact ⟨_, M2, Q', Ex, .cons (.ref a) r2, rm2, q2, kc.tx (t1.trans t2), fun cls d H' M' t3 rm3 z => kx cls d H' M' ((t1.trans t2).trans t3) rm3 z⟩⟩
theorem rx_call (c : CalX X.prog X.w X.K X.mg X.base k x ps sp) (hr : Room k X.A) (ha : RA X (e :: es) da) (hg : Gl X x := by rfl) (hdb : (x == ("__debug__" : Str)) = false := by decide)
    (he : starEach (e :: es) X.env = (false, eval e X.env) :: starEach es X.env := by rfl) (hpl : (backTo cpos (starEach es X.env)).any (·.1) = false := by rfl) : RX X (.Call (.Name x p) (e :: es) [] cpos) (dCallX sp da) := fun W tk =>
  pe_imp (pe_calX c hr tk ha hg hdb he hpl) fun σ H Q ⟨E, M, Q', Ex, sl, rm, h, kc, kx⟩ => ⟨E, M, _, sl, rm, h, fun vs H1 ds M1 t1 rm1 r1 q1 => ⟨ds, M1, Q', Ex, r1, rm1, q1, kc.tx t1, fun cls d H' M' t2 rm2 z => kx cls d H' M' (t1.trans t2) rm2 z⟩⟩
theorem rs_dropR (he : RX X e dx) (hs : swapsWith e none pos.line X.env = pure false := by rfl) : RS X (.Expr e pos) (dDropR dx) := fun W tk =>
  ps_imp (ps_expr (he W tk) hs) fun D σ H ⟨E, M, D', sl, rm, h, kn⟩ => ⟨E, M, _, _, sl, rm, h, fun v H2 d M2 t2 rm2 r2 q2 => kn.nx _ _ _ _ t2 (sl.mono t2) rm2 q2,
    fun cls d H2 M2 t2 rm2 q2 => kn.xc cls d σ H2 E M2 t2 (sl.mono t2) rm2 q2⟩
end
/-- a method's rule -/
theorem calm_mk {P : Program} {w : World} {K : PySem.W.Frag} {mg : Str → Option Value} {base : Heap} {m qual : Str} {st : Stmt} {C f : Addr} {fd : FuncData} {N ps : List Str} {k : Nat} {sp : DSp} {b : DS}
    (F : FunD K m qual (defArgs st) (defBody st) (defScope st) [] [] f fd) (cC : Cls K C) (cM : Meth K C m f) (S : FnScope N ps (defScope st)) (bd : ∀ (kV doc pm : Value) (an : Option Addr) (cdv ct : Value) (us : List Value), us.length = ps.length → bindArgs (PySem.W.fnOf m qual (defArgs st) (defBody st) (defScope st) .none kV doc pm an cdv ct) ⟨us, []⟩ = pure (ps.zip us))
    (hb : ∀ (cdv : Value) (A : Around) (outer : List Env) (s : Shared) (H : Hp) (E : XK), Room k (A.deeper (envOfC qual (defScope st) s.heap.objs.size f cdv)) → RSs (Xf P w K mg base N qual (defScope st) f cdv A outer s H E) (defBody st) b)
    (len : ∀ ds M Q E, sp ds M Q E → ds.length = ps.length)
    (hq : ∀ ds M Q E, sp ds M Q E → b { nx := fun _ M' => Q .non M', rt := Q } (startD N.length ds) M) : CalM P w K mg base (k + 1) C m ps sp :=
  ⟨f, fd, fn_ok F S len hb hq, cC, cM, F.bindsN bd⟩
theorem calmx_mk {P : Program} {w : World} {K : PySem.W.Frag} {mg : Str → Option Value} {base : Heap} {m qual : Str} {st : Stmt} {C f : Addr} {fd : FuncData} {N ps : List Str} {k : Nat} {sp : DSp} {b : DS}
    (F : FunD K m qual (defArgs st) (defBody st) (defScope st) [] [] f fd) (cC : Cls K C) (cM : Meth K C m f) (S : FnScope N ps (defScope st)) (bd : ∀ (kV doc pm : Value) (an : Option Addr) (cdv ct : Value) (us : List Value), us.length = ps.length → bindArgs (PySem.W.fnOf m qual (defArgs st) (defBody st) (defScope st) .none kV doc pm an cdv ct) ⟨us, []⟩ = pure (ps.zip us))
    (hb : ∀ (cdv : Value) (A : Around) (outer : List Env) (s : Shared) (H : Hp) (E : XK), Room k (A.deeper (envOfC qual (defScope st) s.heap.objs.size f cdv)) → RSs (cxOf (L2.CX P w) P w K mg base N qual (defScope st) f cdv A outer s H E) (defBody st) b)
    (len : ∀ ds M Q E, sp ds M Q E → ds.length = ps.length)
    (hq : ∀ ds M Q E, sp ds M Q E → b { nx := fun _ M' => Q .non M', rt := Q, xc := fun cls d _ M' => E cls d M' } (startD N.length ds) M) : CalMX P w K mg base (k + 1) C m ps sp :=
  ⟨f, fd, fn_okX F S len hb hq, cC, cM, F.bindsN bd⟩
/-! ### all of a list of bools -/
def oAllL : DL := fun ds M Q => ∃ (a : Addr) (bs : List Bool), ds = [.ref a] ∧ IsL M a (bs.map D.bl) ∧ Q (.bl (bs.all id)) M
section
variable {K : PySem.W.Frag} {w : World} {H : Hp} {M : Mm}
theorem RepL.blsInv : ∀ {bs : List Bool} {xs : List V}, RepL K w H (bs.map D.bl) xs → xs = bs.map V.bl
  | [], _, .nil => rfl
  | _ :: _, _, .cons h t => by rw [h.inv_bl, RepL.blsInv t]; rfl
theorem IsL.bls {a : Addr} {bs : List Bool} (h : IsL M a (bs.map D.bl)) (rm : Rm K w H M) : SqL K H a (bs.map V.bl) := by
  obtain ⟨xs, s, l⟩ := h.sq rm
  rw [l.blsInv] at s; exact s
end
theorem rl_all {K : PySem.W.Frag} {w : World} : RLR K w (rAll K) oAllL := fun ds M Q' xs H Q rm rl h k => by
  obtain ⟨a, bs, rfl, l, q⟩ := h
  obtain ⟨v, rfl, r⟩ := rl.inv1
  exact ⟨a, bs, by rw [r.inv_ref], l.bls rm, k.now rm (.bl _) q⟩
/-! ### own exceptions with a text -/
def okStr (v : V) : Prop := ∃ s : Str, v = .str s ∧ s.length ≤ 1000
def okStrD (d : D) : Prop := ∃ s : Str, d = .str s ∧ s.length ≤ 1000
theorem okStr_rep {K : PySem.W.Frag} {w : World} (H : Hp) (d : D) (v : V) (r : Rep K w H d v) (h : okStrD d) : okStr v := by
  obtain ⟨s, rfl, hl⟩ := h
  exact ⟨s, r.inv_str, hl⟩
def tExcStr (K : PySem.W.Frag) (msg f : Str) : TS := tSeq (tDrop (tVeI K (tCons (tVar 0) (tCons (tOp rStrAdd (tC (.str msg)) (tVar 1)) tNil)))) (tOst K f (tVar 0) (tVar 1))
theorem exc_pureS {K : PySem.W.Frag} {C : Addr} {msg f a1 a2 : Str} (hm : msg.length ≤ 1000) (vs : List V) (H : Hp) (Q : VK) (E : XK) (h : spExc K C f okStr vs H Q E) : tExcStr K msg f { nx := fun _ H' => Q .non H', rt := Q } (start [a1, a2] vs) H := by
  obtain ⟨a, v, rfl, ⟨n, rfl, hn⟩, T, no, ha, q⟩ := h
  refine ⟨V.ref a, rfl, V.str n, rfl, _, _, rfl, rfl, ?_, a, C, _, rfl, by show 1 ≤ 1000; decide, T, ha, ?_⟩
  · exact Nat.le_of_lt (Nat.lt_of_le_of_lt (Nat.add_le_add hm hn) (by decide))
  · exact ⟨_, rfl, _, rfl, a, C, rfl, T, no, .inl ⟨ha, fun dx hdx hne => q dx hdx hne⟩⟩
theorem exc_mkS {P : Program} {w : World} {K : PySem.W.Frag} {mg : Str → Option Value} {base : Heap} {x m qual : Str} {st : Stmt} {C : Addr} {fd : FuncData} {a1 a2 msg f : Str} {k : Nat} (hm : msg.length ≤ 1000) (e : ExcF K C f)
    (F : FunD K m qual (defArgs st) (defBody st) (defScope st) [] [] (He.ma K C "__init__") fd) (S : FnScope [a1, a2] [a1, a2] (defScope st)) (bd : ∀ (kV doc pm : Value) (an : Option Addr) (cdv ct : Value) (us : List Value), us.length = 2 → bindArgs (PySem.W.fnOf m qual (defArgs st) (defBody st) (defScope st) .none kV doc pm an cdv ct) ⟨us, []⟩ = pure ([a1, a2].zip us))
    (hmg : mg x = some (.ref C))
    (hb : ∀ (cdv : Value) (A : Around) (outer : List Env) (s : Shared) (H : Hp) (E : XK), Room k (A.deeper (envOfC qual (defScope st) s.heap.objs.size (He.ma K C "__init__") cdv)) → PSs (cxOf CX0 P w K mg base [a1, a2] qual (defScope st) (He.ma K C "__init__") cdv A outer s H E).nox (defBody st) (tExcStr K msg f)) : CalE P w K mg base (k + 1) x C f okStr := by
  refine ⟨_, fd, [a1, a2], F.ok S (fun vs H Q E h => ?_) (fun cdv A outer s H vs Q E hr h => ⟨_, (hb cdv A outer s H E hr).nox, exc_pureS hm vs H Q E h⟩), e.init, e.ty, F.bindsN bd, hmg, e.T, e.no⟩
  obtain ⟨a, v, rfl, _⟩ := h
  rfl
end DH

set_option Elab.async false
set_option linter.all false
set_option autoImplicit false
set_option maxRecDepth 100000
set_option maxHeartbeats 4000000
/-! the bodies of the defs as deep terms: printed by gen.py -/
namespace Bd
open PySem PySem.Spec PyProof.Rows L2 DH
def kv_ARITY : List (Str × D) := [("not", .int 1), ("neg", .int 1), ("and", .int 2), ("or", .int 2), ("xor", .int 2), ("add", .int 2), ("sub", .int 2), ("mul", .int 2), ("shl", .int 2), ("shr", .int 2), ("eq", .int 2), ("lt", .int 2), ("slt", .int 2), ("pick", .int 3)]
/-! word_limit: width 0, -/
def b_word_limit : DS := dRet (dOp oShl (dC (.int 1)) (dVar 0))
/-! signed_value: width 0, word 1, calls word_limit -/
def b_signed_value (s_word_limit : DSp) : DS := dSeq (dIf (dtB (dOp oGe (dVar 1) (dOp oFdiv (dCall s_word_limit (dCons (dVar 0) (dNil))) (dC (.int 2))))) (dRet (dOp oSub (dVar 1) (dCall s_word_limit (dCons (dVar 0) (dNil))))) (dNext)) (dRet (dVar 1))
/-! operate_one: name 0, width 1, word 2, calls word_limit -/
def b_operate_one (s_word_limit : DSp) : DS := dSeq (dIf (dtB (dOp oEq (dVar 0) (dC (.str "not")))) (dRet (dOp oSub (dOp oSub (dCall s_word_limit (dCons (dVar 1) (dNil))) (dC (.int 1))) (dVar 2))) (dNext)) (dRet (dOp oAnd (dOp oSub (dCall s_word_limit (dCons (dVar 1) (dNil))) (dVar 2)) (dOp oSub (dCall s_word_limit (dCons (dVar 1) (dNil))) (dC (.int 1)))))
/-! operate_bits: name 0, one 1, other 2, -/
def b_operate_bits : DS := dSeq (dIf (dtB (dOp oEq (dVar 0) (dC (.str "and")))) (dRet (dOp oAnd (dVar 1) (dVar 2))) (dNext)) (dSeq (dIf (dtB (dOp oEq (dVar 0) (dC (.str "or")))) (dRet (dOp oOr (dVar 1) (dVar 2))) (dNext)) (dRet (dOp oXor (dVar 1) (dVar 2))))
/-! operate_sum: name 0, width 1, one 2, other 3, mask 4, calls word_limit -/
def b_operate_sum (s_word_limit : DSp) : DS := dSeq (dAsg (dOp oSub (dCall s_word_limit (dCons (dVar 1) (dNil))) (dC (.int 1))) (.nm 4)) (dSeq (dIf (dtB (dOp oEq (dVar 0) (dC (.str "add")))) (dRet (dOp oAnd (dOp oAdd (dVar 2) (dVar 3)) (dVar 4))) (dNext)) (dSeq (dIf (dtB (dOp oEq (dVar 0) (dC (.str "sub")))) (dRet (dOp oAnd (dOp oSub (dVar 2) (dVar 3)) (dVar 4))) (dNext)) (dSeq (dIf (dtB (dOp oEq (dVar 0) (dC (.str "mul")))) (dRet (dOp oAnd (dOp oMul (dVar 2) (dVar 3)) (dVar 4))) (dNext)) (dSeq (dIf (dtB (dOp oEq (dVar 0) (dC (.str "shl")))) (dRet (dOp oAnd (dOp oShl (dVar 2) (dVar 3)) (dVar 4))) (dNext)) (dRet (dOp oShr (dVar 2) (dVar 3)))))))
/-! operate_order: name 0, width 1, one 2, other 3, calls signed_value -/
def b_operate_order (s_signed_value : DSp) : DS := dSeq (dIf (dtB (dOp oEq (dVar 0) (dC (.str "eq")))) (dRet (dL oInt1 (dCons (dOp oEq (dVar 2) (dVar 3)) (dNil)))) (dNext)) (dSeq (dIf (dtB (dOp oEq (dVar 0) (dC (.str "lt")))) (dRet (dL oInt1 (dCons (dOp oLt (dVar 2) (dVar 3)) (dNil)))) (dNext)) (dRet (dL oInt1 (dCons (dOp oLt (dCall s_signed_value (dCons (dVar 1) (dCons (dVar 2) (dNil)))) (dCall s_signed_value (dCons (dVar 1) (dCons (dVar 3) (dNil))))) (dNil)))))
/-! operate: name 0, width 1, args 2, calls operate_one operate_bits operate_order operate_sum -/
def b_operate (s_operate_one s_operate_bits s_operate_order s_operate_sum : DSp) : DS := dSeq (dIf (dtB (dOp oEq (dVar 0) (dC (.str "pick")))) (dSeq (dIf (dtB (dOp oNe (dOp oIx (dVar 2) (dC (.int 0))) (dC (.int 0)))) (dRet (dOp oIx (dVar 2) (dC (.int 1)))) (dNext)) (dRet (dOp oIx (dVar 2) (dC (.int 2))))) (dNext)) (dSeq (dIf (dtB (dOp oEq (dL oLen (dCons (dVar 2) (dNil))) (dC (.int 1)))) (dRet (dCall s_operate_one (dCons (dVar 0) (dCons (dVar 1) (dCons (dOp oIx (dVar 2) (dC (.int 0))) (dNil)))))) (dNext)) (dSeq (dIf (dtB (dOp (oIn false) (dVar 0) (dTup (dCons (dC (.str "and")) (dCons (dC (.str "or")) (dCons (dC (.str "xor")) (dNil))))))) (dRet (dCall s_operate_bits (dCons (dVar 0) (dCons (dOp oIx (dVar 2) (dC (.int 0))) (dCons (dOp oIx (dVar 2) (dC (.int 1))) (dNil)))))) (dNext)) (dSeq (dIf (dtB (dOp (oIn false) (dVar 0) (dTup (dCons (dC (.str "eq")) (dCons (dC (.str "lt")) (dCons (dC (.str "slt")) (dNil))))))) (dRet (dCall s_operate_order (dCons (dVar 0) (dCons (dVar 1) (dCons (dOp oIx (dVar 2) (dC (.int 0))) (dCons (dOp oIx (dVar 2) (dC (.int 1))) (dNil))))))) (dNext)) (dRet (dCall s_operate_sum (dCons (dVar 0) (dCons (dVar 1) (dCons (dOp oIx (dVar 2) (dC (.int 0))) (dCons (dOp oIx (dVar 2) (dC (.int 1))) (dNil))))))))))
/-! all_rows: width 0, many 1, rows 2, _ 3, row 4, word 5, calls word_limit -/
/-! is_name: name 0, char 1, -/
def b_is_name : DS := dSeq (dIf (dtOr (dtNot (dtB (dChain oLe oLe (dC (.int 1)) (dL oLen (dCons (dVar 0) (dNil))) (dC (.int 6))))) (dtB (dOp (oIn true) (dOp oIx (dVar 0) (dC (.int 0))) (dC (.str "abcdefghijklmnopqrstuvwxyz"))))) (dRet (dC (.bl false))) (dNext)) (dSeq (dFor (dIter (dVar 0)) (.nm 1) (dIf (dtAnd (dtB (dOp (oIn true) (dVar 1) (dC (.str "abcdefghijklmnopqrstuvwxyz")))) (dtB (dOp (oIn true) (dVar 1) (dC (.str "0123456789"))))) (dRet (dC (.bl false))) (dNext))) (dRet (dC (.bl true))))
/-! is_value_name: name 0, calls is_name -/
/-! formula_size: formula 0, total 1, part 2, calls formula_size -/
def b_formula_size (s_formula_size : DSp) : DS := dSeq (dIf (dtE (dIs [.int, .str] (dVar 0))) (dRet (dC (.int 1))) (dNext)) (dSeq (dAsg (dC (.int 1)) (.nm 1)) (dSeq (dFor (dIter (dSl (dVar 0) (dPart (dC (.int 1))) dNoPart)) (.nm 2) (dAsg (dOp oAdd (dVar 1) (dCall s_formula_size (dCons (dVar 2) (dNil)))) (.nm 1))) (dRet (dVar 1))))
/-! formula_depth: formula 0, deepest 1, part 2, calls formula_depth -/
/-! is_shaped: formula 0, width 1, names 2, depth 3, part 4, calls word_limit is_shaped -/
def b_is_shaped (s_word_limit s_is_shaped : DSp) : DS := dSeq (dIf (dtE (dIs [.int] (dVar 0))) (dRet (dChain oLe oLt (dC (.int 0)) (dVar 0) (dCall s_word_limit (dCons (dVar 1) (dNil))))) (dNext)) (dSeq (dIf (dtE (dIs [.str] (dVar 0))) (dRet (dOp (oIn false) (dVar 0) (dVar 2))) (dNext)) (dSeq (dIf (dtOr (dtB (dOp oEq (dVar 3) (dC (.int 0)))) (dtOr (dtB (dOp oEq (dL oLen (dCons (dVar 0) (dNil))) (dC (.int 0)))) (dtNot (dtE (dIs [.str] (dOp oIx (dVar 0) (dC (.int 0)))))))) (dRet (dC (.bl false))) (dNext)) (dSeq (dIf (dtOr (dtB (dOp (oIn true) (dOp oIx (dVar 0) (dC (.int 0))) (dC (.kd kv_ARITY)))) (dtB (dOp oNe (dL oLen (dCons (dVar 0) (dNil))) (dOp oAdd (dC (.int 1)) (dOp oIx (dC (.kd kv_ARITY)) (dOp oIx (dVar 0) (dC (.int 0)))))))) (dRet (dC (.bl false))) (dNext)) (dSeq (dFor (dIter (dSl (dVar 0) (dPart (dC (.int 1))) dNoPart)) (.nm 4) (dIf (dtNot (dtE (dCall s_is_shaped (dCons (dVar 4) (dCons (dVar 1) (dCons (dVar 2) (dCons (dOp oSub (dVar 3) (dC (.int 1))) (dNil)))))))) (dRet (dC (.bl false))) (dNext))) (dRet (dC (.bl true)))))))
/-! is_formula: formula 0, width 1, names 2, most 3, calls is_shaped formula_size -/
def b_is_formula (s_is_shaped s_formula_size : DSp) : DS := dRet (dAndV (dCall s_is_shaped (dCons (dVar 0) (dCons (dVar 1) (dCons (dVar 2) (dCons (dC (.int 6)) (dNil)))))) (dOp oLe (dCall s_formula_size (dCons (dVar 0) (dNil))) (dVar 3)))
/-! formula_names: formula 0, found 1, part 2, name 3, calls formula_names -/
def b_formula_names (s_formula_names : DSp) : DS := dSeq (dIf (dtE (dIs [.int] (dVar 0))) (dRet (dLst (dNil))) (dNext)) (dSeq (dIf (dtE (dIs [.str] (dVar 0))) (dRet (dLst (dCons (dVar 0) (dNil)))) (dNext)) (dSeq (dAsg (dLst (dNil)) (.nm 1)) (dSeq (dFor (dIter (dSl (dVar 0) (dPart (dC (.int 1))) dNoPart)) (.nm 2) (dFor (dIter (dCall s_formula_names (dCons (dVar 2) (dNil)))) (.nm 3) (dIf (dtB (dOp (oIn true) (dVar 3) (dVar 1))) (dDrop (dApp (dVar 1) (dVar 3))) (dNext)))) (dRet (dVar 1)))))
/-! formula_value: formula 0, width 1, env 2, args 3, part 4, calls formula_value operate -/
def b_formula_value (s_formula_value s_operate : DSp) : DS := dSeq (dIf (dtE (dIs [.int] (dVar 0))) (dRet (dVar 0)) (dNext)) (dSeq (dIf (dtE (dIs [.str] (dVar 0))) (dRet (dOp oIx (dVar 2) (dVar 0))) (dNext)) (dSeq (dAsg (dLst (dNil)) (.nm 3)) (dSeq (dFor (dIter (dSl (dVar 0) (dPart (dC (.int 1))) dNoPart)) (.nm 4) (dDrop (dApp (dVar 3) (dCall s_formula_value (dCons (dVar 4) (dCons (dVar 1) (dCons (dVar 2) (dNil)))))))) (dRet (dCall s_operate (dCons (dOp oIx (dVar 0) (dC (.int 0))) (dCons (dVar 1) (dCons (dVar 3) (dNil)))))))))
/-! put_in: formula 0, env 1, parts 2, part 3, calls put_in -/
/-! _law_mix: number 0, k 1, -/
def b__law_mix : DS := dSeq (dAsg (dOp oMod (dOp oAdd (dOp oAdd (dOp oMul (dL oInt1 (dCons (dVar 0) (dNil))) (dC (.int 48271))) (dOp oMul (dVar 1) (dC (.int 69621)))) (dC (.int 12345))) (dC (.int 2147483647))) (.nm 0)) (dRet (dOp oMod (dOp oAdd (dOp oAdd (dOp oMul (dVar 0) (dC (.int 40692))) (dOp oMul (dVar 1) (dC (.int 52774)))) (dC (.int 7))) (dC (.int 2147483399))))
/-! _law_stream: script 0, many 1, numbers 2, last 3, k 4, cell 5, j 6, calls _law_mix -/
def b__law_stream (s__law_mix : DSp) : DS := dSeq (dAsg (dLst (dNil)) (.nm 2)) (dSeq (dAsg (dC (.int 1)) (.nm 3)) (dSeq (dFor (dRng1 (dCons (dL oMin2 (dCons (dC (.int 63)) (dCons (dL oLen (dCons (dVar 0) (dNil))) (dNil)))) (dNil))) (.nm 4) (dSeq (dAsg (dL oAbs (dCons (dL oInt1 (dCons (dOp oIx (dVar 0) (dVar 4)) (dNil))) (dNil))) (.nm 5)) (dSeq (dAsg (dCall s__law_mix (dCons (dOp oAdd (dVar 3) (dOp oMod (dVar 5) (dC (.int 2147483647)))) (dCons (dVar 4) (dNil)))) (.nm 3)) (dIf (dtB (dOp oGe (dVar 5) (dOp oPow (dC (.int 10)) (dC (.int 18))))) (dFor (dRng1 (dCons (dC (.int 40)) (dNil))) (.nm 6) (dIf (dtB (dOp oGt (dVar 5) (dC (.int 0)))) (dSeq (dDrop (dApp (dVar 2) (dOp oMod (dVar 5) (dC (.int 1009))))) (dAsg (dOp oFdiv (dVar 5) (dC (.int 1009))) (.nm 5))) (dNext))) (dDrop (dApp (dVar 2) (dOp oMod (dCall s__law_mix (dCons (dVar 5) (dCons (dVar 4) (dNil)))) (dC (.int 1009))))))))) (dSeq (dFor (dRng1 (dCons (dVar 1) (dNil))) (.nm 4) (dIf (dtB (dOp oLt (dL oLen (dCons (dVar 2) (dNil))) (dVar 1))) (dSeq (dAsg (dCall s__law_mix (dCons (dVar 3) (dCons (dL oLen (dCons (dVar 2) (dNil))) (dNil)))) (.nm 3)) (dDrop (dApp (dVar 2) (dOp oMod (dVar 3) (dC (.int 1009)))))) (dNext))) (dRet (dVar 2)))))
/-! _law_take: numbers 0, cursor 1, many 2, number 3, -/
def b__law_take : DS := dSeq (dAsg (dOp oIx (dVar 0) (dOp oMod (dOp oIx (dVar 1) (dC (.int 0))) (dL oLen (dCons (dVar 0) (dNil))))) (.nm 3)) (dSeq (dSetIx (dOp oAdd (dOp oIx (dVar 1) (dC (.int 0))) (dC (.int 1))) (dVar 1) (dC (.int 0))) (dRet (dOp oMod (dL oInt1 (dCons (dVar 3) (dNil))) (dVar 2))))
/-! _law_arity: word 0, -/
def b__law_arity : DS := dSeq (dIf (dtB (dOp (oIn false) (dVar 0) (dLst (dCons (dC (.str "not")) (dCons (dC (.str "neg")) (dNil)))))) (dRet (dC (.int 1))) (dNext)) (dSeq (dIf (dtB (dOp oEq (dVar 0) (dC (.str "pick")))) (dRet (dC (.int 3))) (dNext)) (dRet (dC (.int 2))))
/-! _law_formula: numbers 0, cursor 1, names 2, width 3, depth 4, words 5, word 6, parts 7, k 8, calls _law_take _law_arity _law_formula -/
def b__law_formula (s__law_take s__law_arity s__law_formula : DSp) : DS := dSeq (dAsg (dLst (dCons (dC (.str "not")) (dCons (dC (.str "neg")) (dCons (dC (.str "and")) (dCons (dC (.str "or")) (dCons (dC (.str "xor")) (dCons (dC (.str "add")) (dCons (dC (.str "sub")) (dCons (dC (.str "mul")) (dCons (dC (.str "shl")) (dCons (dC (.str "shr")) (dCons (dC (.str "eq")) (dCons (dC (.str "lt")) (dCons (dC (.str "slt")) (dCons (dC (.str "pick")) (dNil)))))))))))))))) (.nm 5)) (dSeq (dIf (dtOr (dtB (dOp oEq (dVar 4) (dC (.int 0)))) (dtB (dOp oEq (dCall s__law_take (dCons (dVar 0) (dCons (dVar 1) (dCons (dC (.int 4)) (dNil))))) (dC (.int 0))))) (dSeq (dIf (dtAnd (dtB (dOp oGt (dL oLen (dCons (dVar 2) (dNil))) (dC (.int 0)))) (dtB (dOp oGt (dCall s__law_take (dCons (dVar 0) (dCons (dVar 1) (dCons (dC (.int 4)) (dNil))))) (dC (.int 0))))) (dRet (dOp oIx (dVar 2) (dCall s__law_take (dCons (dVar 0) (dCons (dVar 1) (dCons (dL oLen (dCons (dVar 2) (dNil))) (dNil))))))) (dNext)) (dRet (dCall s__law_take (dCons (dVar 0) (dCons (dVar 1) (dCons (dOp oShl (dC (.int 1)) (dVar 3)) (dNil))))))) (dNext)) (dSeq (dAsg (dOp oIx (dVar 5) (dCall s__law_take (dCons (dVar 0) (dCons (dVar 1) (dCons (dC (.int 14)) (dNil)))))) (.nm 6)) (dSeq (dAsg (dLst (dCons (dVar 6) (dNil))) (.nm 7)) (dSeq (dFor (dRng1 (dCons (dCall s__law_arity (dCons (dVar 6) (dNil))) (dNil))) (.nm 8) (dDrop (dApp (dVar 7) (dCall s__law_formula (dCons (dVar 0) (dCons (dVar 1) (dCons (dVar 2) (dCons (dVar 3) (dCons (dOp oSub (dVar 4) (dC (.int 1))) (dNil)))))))))) (dRet (dL oTuple (dCons (dVar 7) (dNil))))))))
/-! _law_two: word 0, width 1, one 2, other 3, limit 4, -/
def b__law_two : DS := dSeq (dAsg (dOp oShl (dC (.int 1)) (dVar 1)) (.nm 4)) (dSeq (dIf (dtB (dOp oEq (dVar 0) (dC (.str "and")))) (dRet (dOp oAnd (dVar 2) (dVar 3))) (dNext)) (dSeq (dIf (dtB (dOp oEq (dVar 0) (dC (.str "or")))) (dRet (dOp oOr (dVar 2) (dVar 3))) (dNext)) (dSeq (dIf (dtB (dOp oEq (dVar 0) (dC (.str "xor")))) (dRet (dOp oXor (dVar 2) (dVar 3))) (dNext)) (dSeq (dIf (dtB (dOp oEq (dVar 0) (dC (.str "add")))) (dRet (dOp oMod (dL oInt1 (dCons (dOp oAdd (dVar 2) (dVar 3)) (dNil))) (dVar 4))) (dNext)) (dSeq (dIf (dtB (dOp oEq (dVar 0) (dC (.str "sub")))) (dRet (dOp oMod (dL oInt1 (dCons (dOp oSub (dVar 2) (dVar 3)) (dNil))) (dVar 4))) (dNext)) (dSeq (dIf (dtB (dOp oEq (dVar 0) (dC (.str "mul")))) (dRet (dOp oMod (dL oInt1 (dCons (dOp oMul (dVar 2) (dVar 3)) (dNil))) (dVar 4))) (dNext)) (dSeq (dIf (dtB (dOp oEq (dVar 0) (dC (.str "shl")))) (dRet (dOp oMod (dL oInt1 (dCons (dOp oShl (dVar 2) (dVar 3)) (dNil))) (dVar 4))) (dNext)) (dSeq (dIf (dtB (dOp oEq (dVar 0) (dC (.str "shr")))) (dRet (dOp oShr (dVar 2) (dVar 3))) (dNext)) (dSeq (dIf (dtB (dOp oEq (dVar 0) (dC (.str "eq")))) (dRet (dL oInt1 (dCons (dOp oEq (dVar 2) (dVar 3)) (dNil)))) (dNext)) (dSeq (dIf (dtB (dOp oEq (dVar 0) (dC (.str "lt")))) (dRet (dL oInt1 (dCons (dOp oLt (dVar 2) (dVar 3)) (dNil)))) (dNext)) (dRet (dL oInt1 (dCons (dOp oLt (dOp oMod (dL oInt1 (dCons (dOp oAdd (dVar 2) (dOp oFdiv (dVar 4) (dC (.int 2)))) (dNil))) (dVar 4)) (dOp oMod (dL oInt1 (dCons (dOp oAdd (dVar 3) (dOp oFdiv (dVar 4) (dC (.int 2)))) (dNil))) (dVar 4))) (dNil))))))))))))))
/-! _law_value: formula 0, width 1, env 2, parts 3, part 4, calls _law_value _law_two -/
def b__law_value (s__law_value s__law_two : DSp) : DS := dSeq (dIf (dtE (dIs [.int] (dVar 0))) (dRet (dVar 0)) (dNext)) (dSeq (dIf (dtE (dIs [.str] (dVar 0))) (dRet (dOp oIx (dVar 2) (dVar 0))) (dNext)) (dSeq (dAsg (dLc (dIter (dSl (dVar 0) (dPart (dC (.int 1))) dNoPart)) (.nm 4) dYes (dCall s__law_value (dCons (dVar 4) (dCons (dVar 1) (dCons (dVar 2) (dNil))))) [4]) (.nm 3)) (dSeq (dIf (dtB (dOp oEq (dOp oIx (dVar 0) (dC (.int 0))) (dC (.str "not")))) (dRet (dOp oSub (dOp oSub (dOp oShl (dC (.int 1)) (dVar 1)) (dC (.int 1))) (dOp oIx (dVar 3) (dC (.int 0))))) (dNext)) (dSeq (dIf (dtB (dOp oEq (dOp oIx (dVar 0) (dC (.int 0))) (dC (.str "neg")))) (dRet (dOp oMod (dL oInt1 (dCons (dOp oSub (dC (.int 0)) (dOp oIx (dVar 3) (dC (.int 0)))) (dNil))) (dOp oShl (dC (.int 1)) (dVar 1)))) (dNext)) (dSeq (dIf (dtB (dOp oEq (dOp oIx (dVar 0) (dC (.int 0))) (dC (.str "pick")))) (dRet (dOp oIx (dVar 3) (dOp oAdd (dC (.int 1)) (dL oInt1 (dCons (dOp oEq (dOp oIx (dVar 3) (dC (.int 0))) (dC (.int 0))) (dNil)))))) (dNext)) (dRet (dCall s__law_two (dCons (dOp oIx (dVar 0) (dC (.int 0))) (dCons (dVar 1) (dCons (dOp oIx (dVar 3) (dC (.int 0))) (dCons (dOp oIx (dVar 3) (dC (.int 1))) (dNil))))))))))))
/-! _law_size: formula 0, part 1, calls _law_size -/
def b__law_size (s__law_size : DSp) : DS := dSeq (dIf (dtE (dIs [.int, .str] (dVar 0))) (dRet (dC (.int 1))) (dNext)) (dRet (dOp oAdd (dC (.int 1)) (dL oSumL (dCons (dLc (dIter (dSl (dVar 0) (dPart (dC (.int 1))) dNoPart)) (.nm 1) dYes (dCall s__law_size (dCons (dVar 1) (dNil))) [1]) (dNil)))))
/-! _law_depth: formula 0, part 1, calls _law_depth -/
/-! _law_names: formula 0, found 1, part 2, name 3, calls _law_names -/
/-! _law_put: formula 0, env 1, part 2, calls _law_put -/
/-! _law_is_whole: told 0, due 1, -/
def b__law_is_whole : DS := dRet (dAndV (dIs [.int] (dVar 0)) (dAndV (dNotV (dIs [.bl] (dVar 0))) (dOp oEq (dVar 0) (dVar 1))))
/-! _law_truth: told 0, due 1, -/
/-! _law_operations: numbers 0, cursor 1, width 2, words 3, word 4, many 5, args 6, k 7, env 8, due 9, calls _law_arity _law_is_whole _law_take _law_value operate signed_value -/
/-! _law_rows: numbers 0, cursor 1, width 2, many 3, told 4, at 5, row 6, number 7, word 8, calls _law_take all_rows -/
/-! _law_strings: numbers 0, cursor 1, signs 2, name 3, k 4, words 5, good 6, calls _law_take _law_truth is_name is_value_name -/
/-! _law_valid: formula 0, width 1, names 2, size 3, most 4, due 5, calls _law_size _law_depth _law_truth is_formula -/
/-! _law_spoilt: numbers 0, cursor 1, formula 2, width 3, odd 4, wrong 5, calls _law_take -/
/-! law: script 0, numbers 1, cursor 2, width 3, names 4, formula 5, k 6, told 7, env 8, trade 9, handed 10, calls _law_stream _law_take _law_operations _law_rows _law_strings _law_formula _law_depth _law_is_whole _law_size formula_size formula_depth formula_names _law_names _law_valid _law_truth is_formula _law_spoilt _law_value formula_value put_in _law_put -/
/-! bad_input: text 0, at 1, name 2, calls is_value_name -/
/-! bad_let: text 0, at 1, name 2, formula 3, known 4, row 5, calls is_value_name is_formula -/
/-! bad_out: text 0, at 1, register 2, formula 3, known 4, row 5, calls is_formula -/
/-! first_bad_line: text 0, line 1, at 2, calls bad_input is_formula bad_let bad_out -/
/-! row_env: text 0, row 1, env 2, name 3, word 4, -/
/-! keeps_needs: text 0, row 1, env 2, formula 3, calls row_env formula_value -/
/-! let_rows: text 0, rows 1, row 2, calls all_rows keeps_needs -/
/-! text_outputs: text 0, row 1, env 2, name 3, formula 4, found 5, register 6, calls row_env formula_value -/
/-! _law_text: numbers 0, cursor 1, width 2, bits 3, many 4, base 5, inputs 6, k 7, needs 8, count 9, lets 10, known 11, formula 12, outs 13, register 14, calls _law_take _law_formula -/
/-! _law_rows_v2: width 0, many 1, rows 2, number 3, row 4, k 5, -/
/-! _law_env: data 0, row 1, env 2, k 3, -/
/-! _law_keeps: data 0, row 1, env 2, formula 3, calls _law_env _law_value -/
/-! _law_outputs: data 0, row 1, env 2, name 3, formula 4, out 5, calls _law_env _law_value -/
/-! _law_is_word: word 0, -/
/-! _law_same_outputs: told 0, due 1, pair 2, calls _law_is_word -/
/-! _law_same_rows: told 0, due 1, k 2, word 3, calls _law_is_word -/
/-! law_v2: script 0, numbers 1, cursor 2, data 3, text 4, rows 5, kept 6, row 7, due 8, k 9, told 10, stride 11, said 12, calls _law_stream _law_text _law_rows _law_keeps let_rows _law_same_rows keeps_needs _law_same_outputs _law_outputs text_outputs -/
/-! Text__init__: self 0, width 1, inputs 2, needs 3, lets 4, outs 5, name 6, formula 7, register 8, line 9, calls first_bad_line -/
/-! _law_name: numbers 0, cursor 1, at 2, plain 3, letters 4, name 5, k 6, calls _law_take -/
/-! _law_arity_v2: word 0, -/
/-! _law_formula_v2: numbers 0, cursor 1, names 2, width 3, depth 4, words 5, word 6, parts 7, k 8, calls _law_take _law_arity _law_formula -/
/-! _law_odd: choice 0, names 1, width 2, leaf 3, deep 4, k 5, long 6, wide 7, last 8, odd 9, -/
/-! _law_size_v2: formula 0, total 1, part 2, calls _law_size -/
/-! _law_shape: formula 0, width 1, names 2, depth 3, good 4, part 5, calls _law_arity _law_shape -/
/-! _law_good: formula 0, width 1, names 2, calls _law_shape _law_size -/
/-! _law_good_name: name 0, sign 1, calls _law_arity -/
/-! _law_due: width 0, inputs 1, needs 2, lets 3, outs 4, line 5, known 6, at 7, before 8, register 9, formula 10, calls _law_good_name _law_good -/
/-! _law_data: numbers 0, cursor 1, width 2, plain 3, most 4, inputs 5, k 6, needs 7, many 8, lets 9, known 10, name 11, outs 12, register 13, calls _law_take _law_name _law_formula -/
/-! _law_spoil: numbers 0, cursor 1, data 2, known 3, row 4, odd 5, names 6, name 7, place 8, kind 9, at 10, calls _law_odd _law_take -/
/-! _law_holds: text 0, data 1, told 2, row 3, -/
/-! law_v3: script 0, numbers 1, cursor 2, data 3, spoils 4, k 5, due 6, handed 7, line 8, text 9, row 10, e 11, calls _law_stream _law_data _law_take _law_spoil _law_due _law_holds -/
/-! Text__init___v3: self 0, width 1, inputs 2, needs 3, lets 4, outs 5, name 6, formula 7, register 8, line 9, calls first_bad_line -/
/-! check_code: book 0, code 1, at 2, -/
def b_check_code (c_Book : Addr) (s_Bookis_step : DSp) : DS := dFor (dRng1 (dCons (dL oLen (dCons (dVar 1) (dNil))) (dNil))) (.nm 2) (dIf (dtOr (dtB (dOp oGe (dVar 2) (dC (.int 200)))) (dtNot (dtE (dMeth c_Book "is_step" s_Bookis_step (dVar 0) (dCons (dOp oIx (dVar 1) (dVar 2)) (dNil)))))) (dNever) (dNext))
/-! check_code_x: book 0, code 1, at 2, -/
def b_check_code_x (c_Book : Addr) (c_BadCode : Addr) (s_Bookis_step : DSp) : DS := dFor (dRng1 (dCons (dL oLen (dCons (dVar 1) (dNil))) (dNil))) (.nm 2) (dIf (dtOr (dtB (dOp oGe (dVar 2) (dC (.int 200)))) (dtNot (dtE (dMeth c_Book "is_step" s_Bookis_step (dVar 0) (dCons (dOp oIx (dVar 1) (dVar 2)) (dNil)))))) (dRaise c_BadCode "at" okNatD (dVar 2)) (dNext))
/-! begin_state: book 0, row 1, -/
def b_begin_state (cl : CF) : DS := dRet (dOp oAdd (dL oTuple (dCons (dVar 1) (dNil))) (dOp oMul (dTup (dCons (dC (.int 0)) (dNil))) (dOp oSub (dFld cl "registers" (dVar 0)) (dL oLen (dCons (dVar 1) (dNil))))))
/-! step_word: book 0, step 1, state 2, name 3, sources 4, word 5, target 6, env 7, letter 8, source 9, calls formula_value -/
def b_step_word (cl : CF) (c_Book : Addr) (s_Bookdeed s_formula_value : DSp) : DS := dSeq (dAsg (dVar 1) (.tp [3, 4, 5, 6])) (dSeq (dAsg (dDisp [(dC (.str "k"), dVar 5)]) (.nm 7)) (dSeq (dFor (dZip (dCons (dC (.str "ab")) (dCons (dVar 4) (dNil)))) (.tp [8, 9]) (dSetIx (dOp oIx (dVar 2) (dVar 9)) (dVar 7) (dVar 8))) (dRet (dCall s_formula_value (dCons (dOp oIx (dMeth c_Book "deed" s_Bookdeed (dVar 0) (dCons (dVar 3) (dNil))) (dC (.int 2))) (dCons (dFld cl "width" (dVar 0)) (dCons (dVar 7) (dNil))))))))
/-! step_state: book 0, step 1, state 2, target 3, calls step_word -/
def b_step_state (s_step_word : DSp) : DS := dSeq (dAsg (dOp oIx (dVar 1) (dC (.int 3))) (.nm 3)) (dRet (dOp oAdd (dOp oAdd (dSl (dVar 2) dNoPart (dPart (dVar 3))) (dTup (dCons (dCall s_step_word (dCons (dVar 0) (dCons (dVar 1) (dCons (dVar 2) (dNil))))) (dNil)))) (dSl (dVar 2) (dPart (dOp oAdd (dVar 3) (dC (.int 1)))) dNoPart)))
/-! run_code: book 0, code 1, state 2, step 3, calls check_code step_state -/
def b_run_code (s_check_code s_step_state : DSp) : DS := dSeq (dDrop (dCall s_check_code (dCons (dVar 0) (dCons (dVar 1) (dNil))))) (dSeq (dFor (dIter (dVar 1)) (.nm 3) (dAsg (dCall s_step_state (dCons (dVar 0) (dCons (dVar 3) (dCons (dVar 2) (dNil))))) (.nm 2))) (dRet (dVar 2)))
/-! run_code_x: book 0, code 1, state 2, step 3, calls step_state -/
def b_run_code_x (s_check_codeX s_step_state : DSp) : DS := dSeq (dDropR (dCallX s_check_codeX (dCons (dVar 0) (dCons (dVar 1) (dNil))))) (dSeq (dFor (dIter (dVar 1)) (.nm 3) (dAsg (dCall s_step_state (dCons (dVar 0) (dCons (dVar 3) (dCons (dVar 2) (dNil))))) (.nm 2))) (dRet (dVar 2)))
/-! code_price: book 0, code 1, total 2, step 3, calls check_code -/
def b_code_price (c_Book : Addr) (s_Bookdeed s_check_code : DSp) : DS := dSeq (dDrop (dCall s_check_code (dCons (dVar 0) (dCons (dVar 1) (dNil))))) (dSeq (dAsg (dC (.int 0)) (.nm 2)) (dSeq (dFor (dIter (dVar 1)) (.nm 3) (dAsg (dOp oAdd (dVar 2) (dOp oIx (dMeth c_Book "deed" s_Bookdeed (dVar 0) (dCons (dOp oIx (dVar 3) (dC (.int 0))) (dNil))) (dC (.int 1)))) (.nm 2))) (dRet (dVar 2))))
/-! code_price_x: book 0, code 1, total 2, step 3, -/
def b_code_price_x (c_Book : Addr) (s_Bookdeed s_check_codeX : DSp) : DS := dSeq (dDropR (dCallX s_check_codeX (dCons (dVar 0) (dCons (dVar 1) (dNil))))) (dSeq (dAsg (dC (.int 0)) (.nm 2)) (dSeq (dFor (dIter (dVar 1)) (.nm 3) (dAsg (dOp oAdd (dVar 2) (dOp oIx (dMeth c_Book "deed" s_Bookdeed (dVar 0) (dCons (dOp oIx (dVar 3) (dC (.int 0))) (dNil))) (dC (.int 1)))) (.nm 2))) (dRet (dVar 2))))
/-! source_count: formula 0, names 1, calls formula_names -/
def b_source_count (s_formula_names : DSp) : DS := dSeq (dAsg (dCall s_formula_names (dCons (dVar 0) (dNil))) (.nm 1)) (dRet (dOp oAdd (dL oInt1 (dCons (dOp (oIn false) (dC (.str "a")) (dVar 1)) (dNil))) (dL oInt1 (dCons (dOp (oIn false) (dC (.str "b")) (dVar 1)) (dNil)))))
/-! takes_word: formula 0, calls formula_names -/
def b_takes_word (s_formula_names : DSp) : DS := dRet (dOp (oIn false) (dC (.str "k")) (dCall s_formula_names (dCons (dVar 0) (dNil))))
/-! source_rows: registers 0, many 1, rows 2, _ 3, row 4, register 5, -/
def b_source_rows : DS := dSeq (dAsg (dLst (dCons (dTup (dNil)) (dNil))) (.nm 2)) (dSeq (dFor (dRng1 (dCons (dVar 1) (dNil))) (.nm 3) (dAsg (dLc2 (dIter (dVar 2)) (.nm 4) dYes (dRng1 (dCons (dVar 0) (dNil))) (.nm 5) dYes (dOp oAdd (dVar 4) (dTup (dCons (dVar 5) (dNil)))) [4, 5] [5]) (.nm 2))) (dRet (dVar 2)))
/-! step_count: book 0, formula 1, many 2, _ 3, calls source_count takes_word -/
def b_step_count (cl : CF) (s_source_count s_takes_word : DSp) : DS := dSeq (dAsg (dFld cl "registers" (dVar 0)) (.nm 2)) (dSeq (dFor (dRng1 (dCons (dCall s_source_count (dCons (dVar 1) (dNil))) (dNil))) (.nm 3) (dAsg (dOp oMul (dVar 2) (dFld cl "registers" (dVar 0))) (.nm 2))) (dSeq (dIf (dtE (dCall s_takes_word (dCons (dVar 1) (dNil)))) (dAsg (dOp oMul (dVar 2) (dL oLen (dCons (dFld cl "words" (dVar 0)) (dNil)))) (.nm 2)) (dNext)) (dRet (dVar 2))))
/-! bad_deed: book 0, at 1, name 2, price 3, formula 4, row 5, names 6, calls is_name is_formula formula_names -/
def b_bad_deed (cl : CF) (s_is_name s_is_formula s_formula_names : DSp) : DS := dSeq (dAsg (dOp oIx (dFld cl "deeds" (dVar 0)) (dVar 1)) (.tp [2, 3, 4])) (dSeq (dIf (dtOr (dtB (dOp oGe (dVar 1) (dC (.int 6)))) (dtOr (dtNot (dtE (dCall s_is_name (dCons (dVar 2) (dNil))))) (dtB (dOp (oIn false) (dVar 2) (dLc (dIter (dSl (dFld cl "deeds" (dVar 0)) dNoPart (dPart (dVar 1)))) (.nm 5) dYes (dOp oIx (dVar 5) (dC (.int 0))) [5]))))) (dRet (dC (.bl true))) (dNext)) (dSeq (dIf (dtNot (dtB (dChain oLe oLe (dC (.int 1)) (dVar 3) (dC (.int 9))))) (dRet (dC (.bl true))) (dNext)) (dSeq (dIf (dtNot (dtE (dCall s_is_formula (dCons (dVar 4) (dCons (dFld cl "width" (dVar 0)) (dCons (dTup (dCons (dC (.str "a")) (dCons (dC (.str "b")) (dCons (dC (.str "k")) (dNil))))) (dCons (dC (.int 9)) (dNil)))))))) (dRet (dC (.bl true))) (dNext)) (dSeq (dAsg (dCall s_formula_names (dCons (dVar 4) (dNil))) (.nm 6)) (dRet (dAndV (dOp (oIn false) (dC (.str "b")) (dVar 6)) (dOp (oIn true) (dC (.str "a")) (dVar 6))))))))
/-! bad_words: book 0, at 1, calls word_limit -/
def b_bad_words (cl : CF) (s_word_limit : DSp) : DS := dSeq (dFor (dRng1 (dCons (dL oLen (dCons (dFld cl "words" (dVar 0)) (dNil))) (dNil))) (.nm 1) (dSeq (dIf (dtNot (dtB (dChain oLe oLt (dC (.int 0)) (dOp oIx (dFld cl "words" (dVar 0)) (dVar 1)) (dCall s_word_limit (dCons (dFld cl "width" (dVar 0)) (dNil)))))) (dRet (dC (.bl true))) (dNext)) (dIf (dtAnd (dtB (dOp oGt (dVar 1) (dC (.int 0)))) (dtB (dOp oLe (dOp oIx (dFld cl "words" (dVar 0)) (dVar 1)) (dOp oIx (dFld cl "words" (dVar 0)) (dOp oSub (dVar 1) (dC (.int 1))))))) (dRet (dC (.bl true))) (dNext)))) (dRet (dC (.bl false)))
/-! first_bad_line_v2: book 0, at 1, calls bad_words bad_deed -/
def b_first_bad_line_v2 (cl : CF) (s_bad_words s_bad_deed : DSp) : DS := dSeq (dIf (dtNot (dtB (dChain oLe oLe (dC (.int 1)) (dFld cl "width" (dVar 0)) (dC (.int 4))))) (dRet (dC (.int 1))) (dNext)) (dSeq (dIf (dtOr (dtNot (dtB (dChain oLe oLe (dC (.int 1)) (dFld cl "registers" (dVar 0)) (dC (.int 4))))) (dtB (dOp oGt (dOp oMul (dFld cl "width" (dVar 0)) (dFld cl "registers" (dVar 0))) (dC (.int 8))))) (dRet (dC (.int 2))) (dNext)) (dSeq (dIf (dtE (dCall s_bad_words (dCons (dVar 0) (dNil)))) (dRet (dC (.int 3))) (dNext)) (dSeq (dFor (dRng1 (dCons (dL oLen (dCons (dFld cl "deeds" (dVar 0)) (dNil))) (dNil))) (.nm 1) (dIf (dtE (dCall s_bad_deed (dCons (dVar 0) (dCons (dVar 1) (dNil))))) (dRet (dOp oAdd (dC (.int 4)) (dVar 1))) (dNext))) (dSeq (dIf (dtB (dOp oEq (dL oLen (dCons (dFld cl "deeds" (dVar 0)) (dNil))) (dC (.int 0)))) (dRet (dC (.int 4))) (dNext)) (dRet (dC (.int 0)))))))
/-! _law_book: numbers 0, cursor 1, width 2, registers 3, words 4, word 5, count 6, base 7, deeds 8, k 9, known 10, formula 11, name 12, calls _law_take _law_formula _law_names _law_size -/
def b__law_book (s__law_take s__law_formula s__law_names s__law_size : DSp) : DS := dSeq (dAsg (dOp oAdd (dC (.int 1)) (dCall s__law_take (dCons (dVar 0) (dCons (dVar 1) (dCons (dC (.int 4)) (dNil)))))) (.nm 2)) (dSeq (dAsg (dOp oAdd (dC (.int 1)) (dCall s__law_take (dCons (dVar 0) (dCons (dVar 1) (dCons (dL oMin2 (dCons (dC (.int 4)) (dCons (dOp oFdiv (dC (.int 8)) (dVar 2)) (dNil)))) (dNil)))))) (.nm 3)) (dSeq (dAsg (dLc (dRng1 (dCons (dOp oShl (dC (.int 1)) (dVar 2)) (dNil))) (.nm 5) (dtB (dOp oEq (dCall s__law_take (dCons (dVar 0) (dCons (dVar 1) (dCons (dC (.int 3)) (dNil))))) (dC (.int 0)))) (dVar 5) [5]) (.nm 4)) (dSeq (dAsg (dSl (dVar 4) dNoPart (dPart (dC (.int 4)))) (.nm 4)) (dSeq (dAsg (dOp oAdd (dC (.int 1)) (dCall s__law_take (dCons (dVar 0) (dCons (dVar 1) (dCons (dC (.int 4)) (dNil)))))) (.nm 6)) (dSeq (dIf (dtB (dOp oEq (dCall s__law_take (dCons (dVar 0) (dCons (dVar 1) (dCons (dC (.int 8)) (dNil))))) (dC (.int 0)))) (dAsg (dC (.int 6)) (.nm 6)) (dNext)) (dSeq (dAsg (dCall s__law_take (dCons (dVar 0) (dCons (dVar 1) (dCons (dC (.int 6)) (dNil))))) (.nm 7)) (dSeq (dAsg (dLst (dNil)) (.nm 8)) (dSeq (dFor (dRng1 (dCons (dVar 6) (dNil))) (.nm 9) (dSeq (dAsg (dOp oIx (dLst (dCons (dLst (dCons (dC (.str "k")) (dNil))) (dCons (dLst (dCons (dC (.str "a")) (dNil))) (dCons (dLst (dCons (dC (.str "a")) (dCons (dC (.str "b")) (dNil)))) (dCons (dLst (dCons (dC (.str "a")) (dCons (dC (.str "k")) (dNil)))) (dCons (dLst (dCons (dC (.str "a")) (dCons (dC (.str "b")) (dCons (dC (.str "k")) (dNil))))) (dCons (dLst (dNil)) (dNil)))))))) (dCall s__law_take (dCons (dVar 0) (dCons (dVar 1) (dCons (dC (.int 6)) (dNil)))))) (.nm 10)) (dSeq (dAsg (dCall s__law_formula (dCons (dVar 0) (dCons (dVar 1) (dCons (dVar 10) (dCons (dVar 2) (dCons (dC (.int 2)) (dNil))))))) (.nm 11)) (dSeq (dIf (dtAnd (dtB (dOp oEq (dL oLen (dCons (dVar 10) (dNil))) (dC (.int 2)))) (dtB (dOp oEq (dCall s__law_take (dCons (dVar 0) (dCons (dVar 1) (dCons (dC (.int 2)) (dNil))))) (dC (.int 0))))) (dAsg (dTup (dCons (dOp oIx (dLst (dCons (dC (.str "add")) (dCons (dC (.str "and")) (dCons (dC (.str "sub")) (dCons (dC (.str "xor")) (dNil)))))) (dCall s__law_take (dCons (dVar 0) (dCons (dVar 1) (dCons (dC (.int 4)) (dNil)))))) (dCons (dOp oIx (dVar 10) (dC (.int 0))) (dCons (dOp oIx (dVar 10) (dC (.int 1))) (dNil))))) (.nm 11)) (dNext)) (dSeq (dIf (dtAnd (dtB (dOp (oIn false) (dC (.str "b")) (dCall s__law_names (dCons (dVar 11) (dNil))))) (dtB (dOp (oIn true) (dC (.str "a")) (dCall s__law_names (dCons (dVar 11) (dNil)))))) (dAsg (dTup (dCons (dC (.str "sub")) (dCons (dC (.str "b")) (dCons (dC (.str "a")) (dNil))))) (.nm 11)) (dNext)) (dSeq (dIf (dtB (dOp oGt (dCall s__law_size (dCons (dVar 11) (dNil))) (dC (.int 9)))) (dAsg (dTup (dCons (dC (.str "xor")) (dCons (dOp oIx (dVar 11) (dC (.int 1))) (dCons (dC (.str "a")) (dNil))))) (.nm 11)) (dNext)) (dSeq (dIf (dtOr (dtB (dOp oGt (dCall s__law_size (dCons (dVar 11) (dNil))) (dC (.int 9)))) (dtAnd (dtB (dOp (oIn false) (dC (.str "b")) (dCall s__law_names (dCons (dVar 11) (dNil))))) (dtB (dOp (oIn true) (dC (.str "a")) (dCall s__law_names (dCons (dVar 11) (dNil))))))) (dAsg (dTup (dCons (dC (.str "neg")) (dCons (dC (.str "a")) (dNil)))) (.nm 11)) (dNext)) (dSeq (dAsg (dOp oIx (dLst (dCons (dC (.str "add")) (dCons (dC (.str "x")) (dCons (dC (.str "nand1")) (dCons (dC (.str "shlk")) (dCons (dC (.str "q7")) (dCons (dC (.str "set")) (dNil)))))))) (dOp oMod (dOp oAdd (dVar 9) (dVar 7)) (dC (.int 6)))) (.nm 12)) (dDrop (dApp (dVar 8) (dTup (dCons (dVar 12) (dCons (dOp oAdd (dC (.int 1)) (dOp oMul (dCall s__law_take (dCons (dVar 0) (dCons (dVar 1) (dCons (dC (.int 3)) (dNil))))) (dCall s__law_take (dCons (dVar 0) (dCons (dVar 1) (dCons (dC (.int 5)) (dNil))))))) (dCons (dVar 11) (dNil))))))))))))))) (dRet (dLst (dCons (dVar 2) (dCons (dVar 3) (dCons (dVar 4) (dCons (dVar 8) (dNil)))))))))))))))
/-! _law_names_v2: formula 0, found 1, part 2, calls _law_names -/
def b__law_names_v2 (s__law_names : DSp) : DS := dSeq (dIf (dtE (dIs [.str] (dVar 0))) (dRet (dLst (dCons (dVar 0) (dNil)))) (dNext)) (dSeq (dAsg (dLst (dNil)) (.nm 1)) (dSeq (dIf (dtE (dIs [.tup] (dVar 0))) (dFor (dIter (dSl (dVar 0) (dPart (dC (.int 1))) dNoPart)) (.nm 2) (dAsg (dOp oAdd (dVar 1) (dCall s__law_names (dCons (dVar 2) (dNil)))) (.nm 1))) (dNext)) (dRet (dVar 1))))
/-! _law_sources: formula 0, names 1, calls _law_names -/
def b__law_sources (s__law_names : DSp) : DS := dSeq (dAsg (dCall s__law_names (dCons (dVar 0) (dNil))) (.nm 1)) (dRet (dOp oAdd (dL oInt1 (dCons (dOp (oIn false) (dC (.str "a")) (dVar 1)) (dNil))) (dL oInt1 (dCons (dOp (oIn false) (dC (.str "b")) (dVar 1)) (dNil)))))
/-! _law_steps: data 0, found 1, name 2, price 3, formula 4, sources 5, register 6, k 7, words 8, row 9, word 10, target 11, calls _law_sources _law_names -/
def b__law_steps (s__law_sources s__law_names : DSp) : DS := dSeq (dAsg (dLst (dNil)) (.nm 1)) (dSeq (dFor (dIter (dOp oIx (dVar 0) (dC (.int 3)))) (.tp [2, 3, 4]) (dSeq (dAsg (dLst (dCons (dTup (dNil)) (dNil))) (.nm 5)) (dSeq (dIf (dtB (dOp oEq (dCall s__law_sources (dCons (dVar 4) (dNil))) (dC (.int 1)))) (dAsg (dLc (dRng1 (dCons (dOp oIx (dVar 0) (dC (.int 1))) (dNil))) (.nm 6) dYes (dTup (dCons (dVar 6) (dNil))) [6]) (.nm 5)) (dNext)) (dSeq (dIf (dtB (dOp oEq (dCall s__law_sources (dCons (dVar 4) (dNil))) (dC (.int 2)))) (dAsg (dLc (dRng1 (dCons (dOp oMul (dOp oIx (dVar 0) (dC (.int 1))) (dOp oIx (dVar 0) (dC (.int 1)))) (dNil))) (.nm 7) dYes (dTup (dCons (dOp oFdiv (dL oInt1 (dCons (dVar 7) (dNil))) (dOp oIx (dVar 0) (dC (.int 1)))) (dCons (dOp oMod (dL oInt1 (dCons (dVar 7) (dNil))) (dOp oIx (dVar 0) (dC (.int 1)))) (dNil)))) [7]) (.nm 5)) (dNext)) (dSeq (dAsg (dLst (dCons (dC .non) (dNil))) (.nm 8)) (dSeq (dIf (dtB (dOp (oIn false) (dC (.str "k")) (dCall s__law_names (dCons (dVar 4) (dNil))))) (dAsg (dOp oIx (dVar 0) (dC (.int 2))) (.nm 8)) (dNext)) (dFor (dIter (dVar 5)) (.nm 9) (dFor (dIter (dVar 8)) (.nm 10) (dFor (dRng1 (dCons (dOp oIx (dVar 0) (dC (.int 1))) (dNil))) (.nm 11) (dDrop (dApp (dVar 1) (dTup (dCons (dVar 2) (dCons (dVar 9) (dCons (dVar 10) (dCons (dVar 11) (dNil))))))))))))))))) (dRet (dVar 1)))
/-! _law_deed: data 0, name 1, row 2, -/
def b__law_deed : DS := dSeq (dFor (dIter (dOp oIx (dVar 0) (dC (.int 3)))) (.nm 2) (dIf (dtB (dOp oEq (dOp oIx (dVar 2) (dC (.int 0))) (dVar 1))) (dRet (dVar 2)) (dNext))) (dRet (dC .non))
/-! _law_many: data 0, steps 1, many 2, price 3, step 4, calls _law_deed -/
def b__law_many (s__law_deed : DSp) : DS := dSeq (dAsg (dLc (dRng1 (dCons (dC (.int 10)) (dNil))) (.nm 3) dYes (dC (.int 0)) [3]) (.nm 2)) (dSeq (dFor (dIter (dVar 1)) (.nm 4) (dSeq (dAsg (dOp oIx (dCall s__law_deed (dCons (dVar 0) (dCons (dOp oIx (dVar 4) (dC (.int 0))) (dNil)))) (dC (.int 1))) (.nm 3)) (dSetIx (dOp oAdd (dOp oIx (dVar 2) (dVar 3)) (dC (.int 1))) (dVar 2) (dVar 3)))) (dRet (dVar 2)))
/-! _law_counts: many 0, most 1, counts 2, total 3, price 4, -/
def b__law_counts : DS := dSeq (dAsg (dLst (dCons (dC (.int 1)) (dNil))) (.nm 2)) (dSeq (dFor (dRng2 (dCons (dC (.int 1)) (dCons (dOp oAdd (dVar 1) (dC (.int 1))) (dNil)))) (.nm 3) (dDrop (dApp (dVar 2) (dL oSumL (dCons (dLc (dRng2 (dCons (dC (.int 1)) (dCons (dOp oAdd (dL oMin2 (dCons (dVar 3) (dCons (dC (.int 9)) (dNil)))) (dC (.int 1))) (dNil)))) (.nm 4) dYes (dOp oMul (dOp oIx (dVar 0) (dVar 4)) (dOp oIx (dVar 2) (dOp oSub (dVar 3) (dVar 4)))) [4]) (dNil)))))) (dRet (dL oSumL (dCons (dVar 2) (dNil)))))
/-! _law_after: data 0, step 1, state 2, env 3, k 4, word 5, calls _law_value _law_deed -/
def b__law_after (s__law_value s__law_deed : DSp) : DS := dSeq (dAsg (dDisp [(dC (.str "k"), dOp oIx (dVar 1) (dC (.int 2)))]) (.nm 3)) (dSeq (dFor (dRng1 (dCons (dL oLen (dCons (dOp oIx (dVar 1) (dC (.int 1))) (dNil))) (dNil))) (.nm 4) (dSetIx (dOp oIx (dVar 2) (dOp oIx (dOp oIx (dVar 1) (dC (.int 1))) (dVar 4))) (dVar 3) (dOp oIx (dC (.str "ab")) (dVar 4)))) (dSeq (dAsg (dCall s__law_value (dCons (dOp oIx (dCall s__law_deed (dCons (dVar 0) (dCons (dOp oIx (dVar 1) (dC (.int 0))) (dNil)))) (dC (.int 2))) (dCons (dOp oIx (dVar 0) (dC (.int 0))) (dCons (dVar 3) (dNil))))) (.nm 5)) (dRet (dOp oAdd (dOp oAdd (dSl (dVar 2) dNoPart (dPart (dOp oIx (dVar 1) (dC (.int 3))))) (dTup (dCons (dVar 5) (dNil)))) (dSl (dVar 2) (dPart (dOp oAdd (dOp oIx (dVar 1) (dC (.int 3))) (dC (.int 1)))) dNoPart)))))
/-! _law_spoilt_v2: numbers 0, cursor 1, data 2, step 3, name 4, sources 5, word 6, target 7, kind 8, free 9, calls _law_take -/
def b__law_spoilt_v2 (s__law_take : DSp) : DS := dSeq (dAsg (dVar 3) (.tp [4, 5, 6, 7])) (dSeq (dAsg (dCall s__law_take (dCons (dVar 0) (dCons (dVar 1) (dCons (dC (.int 8)) (dNil))))) (.nm 8)) (dSeq (dIf (dtB (dOp oEq (dVar 8) (dC (.int 0)))) (dRet (dTup (dCons (dC (.str "zz")) (dCons (dVar 5) (dCons (dVar 6) (dCons (dVar 7) (dNil))))))) (dNext)) (dSeq (dIf (dtB (dOp oEq (dVar 8) (dC (.int 1)))) (dRet (dTup (dCons (dVar 4) (dCons (dOp oAdd (dVar 5) (dTup (dCons (dC (.int 0)) (dNil)))) (dCons (dVar 6) (dCons (dVar 7) (dNil))))))) (dNext)) (dSeq (dIf (dtAnd (dtB (dOp oEq (dVar 8) (dC (.int 2)))) (dtB (dOp oGt (dL oLen (dCons (dVar 5) (dNil))) (dC (.int 0))))) (dRet (dTup (dCons (dVar 4) (dCons (dSl (dVar 5) (dPart (dC (.int 1))) dNoPart) (dCons (dVar 6) (dCons (dVar 7) (dNil))))))) (dNext)) (dSeq (dIf (dtAnd (dtB (dOp oEq (dVar 8) (dC (.int 3)))) (dtB (dOp oGt (dL oLen (dCons (dVar 5) (dNil))) (dC (.int 0))))) (dRet (dTup (dCons (dVar 4) (dCons (dOp oAdd (dSl (dVar 5) (dPart (dC (.int 1))) dNoPart) (dTup (dCons (dOp oIx (dVar 2) (dC (.int 1))) (dNil)))) (dCons (dVar 6) (dCons (dVar 7) (dNil))))))) (dNext)) (dSeq (dIf (dtAnd (dtB (dOp oEq (dVar 8) (dC (.int 4)))) (dtB (dOp oGt (dL oLen (dCons (dVar 5) (dNil))) (dC (.int 0))))) (dRet (dTup (dCons (dVar 4) (dCons (dOp oAdd (dTup (dCons (dUn oNeg (dC (.int 1))) (dNil))) (dSl (dVar 5) (dPart (dC (.int 1))) dNoPart)) (dCons (dVar 6) (dCons (dVar 7) (dNil))))))) (dNext)) (dSeq (dIf (dtB (dOp oEq (dVar 8) (dC (.int 5)))) (dRet (dTup (dCons (dVar 4) (dCons (dVar 5) (dCons (dVar 6) (dCons (dUn oNeg (dC (.int 1))) (dNil))))))) (dNext)) (dSeq (dIf (dtAnd (dtB (dOp oEq (dVar 8) (dC (.int 6)))) (dtB (dOp (oIs true) (dVar 6) (dC .non)))) (dRet (dTup (dCons (dVar 4) (dCons (dVar 5) (dCons (dC .non) (dCons (dVar 7) (dNil))))))) (dNext)) (dSeq (dIf (dtAnd (dtB (dOp oEq (dVar 8) (dC (.int 7)))) (dtB (dOp (oIs false) (dVar 6) (dC .non)))) (dRet (dTup (dCons (dVar 4) (dCons (dVar 5) (dCons (dC (.int 0)) (dCons (dVar 7) (dNil))))))) (dNext)) (dSeq (dIf (dtAnd (dtB (dOp oEq (dVar 8) (dC (.int 7)))) (dtB (dOp oLt (dL oLen (dCons (dOp oIx (dVar 2) (dC (.int 2))) (dNil))) (dOp oShl (dC (.int 1)) (dOp oIx (dVar 2) (dC (.int 0))))))) (dRet (dTup (dCons (dVar 4) (dCons (dVar 5) (dCons (dOp oIx (dLc (dRng1 (dCons (dOp oShl (dC (.int 1)) (dOp oIx (dVar 2) (dC (.int 0)))) (dNil))) (.nm 9) (dtB (dOp (oIn true) (dVar 9) (dOp oIx (dVar 2) (dC (.int 2))))) (dVar 9) [9]) (dC (.int 0))) (dCons (dVar 7) (dNil))))))) (dNext)) (dRet (dTup (dCons (dVar 4) (dCons (dVar 5) (dCons (dVar 6) (dCons (dOp oIx (dVar 2) (dC (.int 1))) (dNil)))))))))))))))))
/-! _law_is_state: told 0, due 1, word 2, -/
def b__law_is_state : DS := dSeq (dIf (dtOr (dtNot (dtE (dIs [.tup] (dVar 0)))) (dtB (dOp oNe (dVar 0) (dVar 1)))) (dRet (dC (.bl false))) (dNext)) (dRet (dOp oEq (dL oLen (dCons (dLc (dIter (dVar 0)) (.nm 2) (dtOr (dtNot (dtE (dIs [.int] (dVar 2)))) (dtE (dIs [.bl] (dVar 2)))) (dVar 2) [2]) (dNil))) (dC (.int 0))))
/-! _law_bad: book 0, code 1, state 2, kind 3, e 4, -/
def b__law_bad (c_BadCode : Addr) (c_NoneshorterError : Addr) (c_BadText : Addr) (sub_BadCode : Value → Option Bool) (kit_NoneshorterError : Value → Option Bool) (kit_BadText : Value → Option Bool) (s_check_codeX s_code_priceX s_run_codeX : DSp) : DS := dSeq (dTryAs sub_BadCode 4 (dSeq (dIf (dtB (dOp oEq (dVar 3) (dC (.int 0)))) (dDropR (dCallX s_check_codeX (dCons (dVar 0) (dCons (dVar 1) (dNil))))) (dNext)) (dSeq (dIf (dtB (dOp oEq (dVar 3) (dC (.int 1)))) (dDropR (dCallX s_code_priceX (dCons (dVar 0) (dCons (dVar 1) (dNil))))) (dNext)) (dIf (dtB (dOp oEq (dVar 3) (dC (.int 2)))) (dDropR (dCallX s_run_codeX (dCons (dVar 0) (dCons (dVar 1) (dCons (dVar 2) (dNil)))))) (dNext)))) (fun a cls d => dSeq (dIf (dtOr (dtNot (dtE (dIsX kit_NoneshorterError a cls d c_BadCode (dVar 4)))) (dtOr (dtE (dIsX kit_BadText a cls d c_BadCode (dVar 4))) (dtE (dIs [.bl] (dXf a cls d c_BadCode "at" (dVar 4)))))) (dRet (dUn oNeg (dC (.int 2)))) (dNext)) (dRet (dXf a cls d c_BadCode "at" (dVar 4))))) (dRet (dUn oNeg (dC (.int 1))))
/-! _law_unknown: book 0, name 1, e 2, -/
def b__law_unknown (c_Book : Addr) (c_NoName : Addr) (c_NoneshorterError : Addr) (sub_NoName : Value → Option Bool) (kit_NoneshorterError : Value → Option Bool) (s_BookdeedX : DSp) : DS := dSeq (dTryAs sub_NoName 2 (dDropR (dMethX c_Book "deed" s_BookdeedX (dVar 0) (dCons (dVar 1) (dNil)))) (fun a cls d => dRet (dAndV (dIsX kit_NoneshorterError a cls d c_NoName (dVar 2)) (dOp oEq (dXf a cls d c_NoName "name" (dVar 2)) (dVar 1))))) (dRet (dC (.bl false)))
/-! _law_book_asked: numbers 0, cursor 1, data 2, book 3, steps 4, told 5, row 6, many 7, most 8, calls _law_unknown _law_many _law_take _law_is_whole _law_counts -/
def b__law_book_asked (c_Book : Addr) (s_Booksteps s_Bookdeed s_Bookcodes_within s__law_unknown s__law_many s__law_take s__law_is_whole s__law_counts : DSp) : DS := dSeq (dAsg (dMeth c_Book "steps" s_Booksteps (dVar 3) (dNil)) (.nm 5)) (dSeq (dIf (dtOr (dtNot (dtE (dIs [.lst] (dVar 5)))) (dtB (dOp oNe (dVar 5) (dVar 4)))) (dRet (dC (.bl false))) (dNext)) (dSeq (dDrop (dApp (dVar 5) (dTup (dNil)))) (dSeq (dFor (dIter (dOp oIx (dVar 2) (dC (.int 3)))) (.nm 6) (dIf (dtOr (dtNot (dtE (dIs [.tup] (dMeth c_Book "deed" s_Bookdeed (dVar 3) (dCons (dOp oIx (dVar 6) (dC (.int 0))) (dNil)))))) (dtB (dOp oNe (dMeth c_Book "deed" s_Bookdeed (dVar 3) (dCons (dOp oIx (dVar 6) (dC (.int 0))) (dNil))) (dVar 6)))) (dRet (dC (.bl false))) (dNext))) (dSeq (dIf (dtOr (dtNot (dtE (dCall s__law_unknown (dCons (dVar 3) (dCons (dC (.str "zz")) (dNil)))))) (dtNot (dtE (dCall s__law_unknown (dCons (dVar 3) (dCons (dC (.str "add9")) (dNil))))))) (dRet (dC (.bl false))) (dNext)) (dSeq (dAsg (dCall s__law_many (dCons (dVar 2) (dCons (dVar 4) (dNil)))) (.nm 7)) (dSeq (dFor (dIter (dLst (dCons (dC (.int 0)) (dCons (dC (.int 1)) (dCons (dC (.int 2)) (dCons (dC (.int 3)) (dCons (dC (.int 4)) (dCons (dC (.int 5)) (dCons (dOp oAdd (dC (.int 6)) (dCall s__law_take (dCons (dVar 0) (dCons (dVar 1) (dCons (dC (.int 35)) (dNil)))))) (dNil)))))))))) (.nm 8) (dIf (dtNot (dtE (dCall s__law_is_whole (dCons (dMeth c_Book "codes_within" s_Bookcodes_within (dVar 3) (dCons (dVar 8) (dNil))) (dCons (dCall s__law_counts (dCons (dVar 7) (dCons (dVar 8) (dNil)))) (dNil)))))) (dRet (dC (.bl false))) (dNext))) (dRet (dOp oEq (dMeth c_Book "steps" s_Booksteps (dVar 3) (dNil)) (dVar 4)))))))))
/-! law_v4: script 0, numbers 1, cursor 2, data 3, book 4, steps 5, many 6, code 7, k 8, due 9, at 10, said 11, state 12, row 13, handed 14, kind 15, price 16, step 17, end 18, calls _law_stream _law_book _law_steps _law_book_asked _law_take _law_spoilt _law_is_state begin_state _law_bad _law_deed _law_after step_state check_code _law_is_whole code_price run_code -/
def b_law_v4 (c_Book : Addr) (s_Book : DSp) (s_Bookis_step s__law_stream s__law_book s__law_steps s__law_book_asked s__law_take s__law_spoilt s__law_is_state s_begin_state s__law_bad s__law_deed s__law_after s_step_state s_check_code s__law_is_whole s_code_price s_run_code : DSp) : DS := dSeq (dAsg (dCall s__law_stream (dCons (dVar 0) (dCons (dC (.int 300)) (dNil)))) (.nm 1)) (dSeq (dAsg (dLst (dCons (dC (.int 0)) (dNil))) (.nm 2)) (dSeq (dAsg (dCall s__law_book (dCons (dVar 1) (dCons (dVar 2) (dNil)))) (.nm 3)) (dSeq (dAsg (dMake c_Book s_Book (dCons (dOp oIx (dVar 3) (dC (.int 0))) (dCons (dOp oIx (dVar 3) (dC (.int 1))) (dCons (dL oList (dCons (dOp oIx (dVar 3) (dC (.int 2))) (dNil))) (dCons (dL oList (dCons (dOp oIx (dVar 3) (dC (.int 3))) (dNil))) (dNil)))))) (.nm 4)) (dSeq (dAsg (dCall s__law_steps (dCons (dVar 3) (dNil))) (.nm 5)) (dSeq (dIf (dtNot (dtE (dCall s__law_book_asked (dCons (dVar 1) (dCons (dVar 2) (dCons (dVar 3) (dCons (dVar 4) (dCons (dVar 5) (dNil))))))))) (dRet (dC (.bl false))) (dNext)) (dSeq (dAsg (dCall s__law_take (dCons (dVar 1) (dCons (dVar 2) (dCons (dC (.int 7)) (dNil))))) (.nm 6)) (dSeq (dIf (dtB (dOp oEq (dCall s__law_take (dCons (dVar 1) (dCons (dVar 2) (dCons (dC (.int 16)) (dNil))))) (dC (.int 0)))) (dAsg (dOp oAdd (dC (.int 190)) (dCall s__law_take (dCons (dVar 1) (dCons (dVar 2) (dCons (dC (.int 14)) (dNil)))))) (.nm 6)) (dNext)) (dSeq (dAsg (dLst (dNil)) (.nm 7)) (dSeq (dFor (dRng1 (dCons (dVar 6) (dNil))) (.nm 8) (dIf (dtB (dOp oGt (dL oLen (dCons (dVar 5) (dNil))) (dC (.int 0)))) (dDrop (dApp (dVar 7) (dOp oIx (dVar 5) (dOp oMod (dOp oAdd (dOp oMul (dCall s__law_take (dCons (dVar 1) (dCons (dVar 2) (dCons (dC (.int 1009)) (dNil))))) (dC (.int 31))) (dCall s__law_take (dCons (dVar 1) (dCons (dVar 2) (dCons (dC (.int 31)) (dNil)))))) (dL oLen (dCons (dVar 5) (dNil))))))) (dNext))) (dSeq (dAsg (dUn oNeg (dC (.int 1))) (.nm 9)) (dSeq (dIf (dtB (dOp oGt (dL oLen (dCons (dVar 7) (dNil))) (dC (.int 200)))) (dAsg (dC (.int 200)) (.nm 9)) (dNext)) (dSeq (dIf (dtAnd (dtB (dOp oGt (dL oLen (dCons (dVar 7) (dNil))) (dC (.int 0)))) (dtB (dOp oEq (dCall s__law_take (dCons (dVar 1) (dCons (dVar 2) (dCons (dC (.int 2)) (dNil))))) (dC (.int 0))))) (dSeq (dAsg (dOp oMod (dCall s__law_take (dCons (dVar 1) (dCons (dVar 2) (dCons (dC (.int 1009)) (dNil))))) (dL oLen (dCons (dVar 7) (dNil)))) (.nm 10)) (dSeq (dAsg (dMeth c_Book "is_step" s_Bookis_step (dVar 4) (dCons (dOp oIx (dVar 7) (dVar 10)) (dNil))) (.nm 11)) (dSeq (dSetIx (dCall s__law_spoilt (dCons (dVar 1) (dCons (dVar 2) (dCons (dVar 3) (dCons (dOp oIx (dVar 7) (dVar 10)) (dNil)))))) (dVar 7) (dVar 10)) (dSeq (dIf (dtOr (dtB (dOp (oIs true) (dVar 11) (dC (.bl true)))) (dtB (dOp (oIs true) (dMeth c_Book "is_step" s_Bookis_step (dVar 4) (dCons (dOp oIx (dVar 7) (dVar 10)) (dNil))) (dC (.bl false))))) (dRet (dC (.bl false))) (dNext)) (dAsg (dL oMin2 (dCons (dVar 10) (dCons (dC (.int 200)) (dNil)))) (.nm 9)))))) (dNext)) (dSeq (dAsg (dL oTuple (dCons (dLc (dRng1 (dCons (dOp oIx (dVar 3) (dC (.int 1))) (dNil))) (.nm 8) dYes (dCall s__law_take (dCons (dVar 1) (dCons (dVar 2) (dCons (dOp oShl (dC (.int 1)) (dOp oIx (dVar 3) (dC (.int 0)))) (dNil))))) [8]) (dNil))) (.nm 12)) (dSeq (dAsg (dSl (dVar 12) dNoPart (dPart (dCall s__law_take (dCons (dVar 1) (dCons (dVar 2) (dCons (dOp oAdd (dOp oIx (dVar 3) (dC (.int 1))) (dC (.int 1))) (dNil))))))) (.nm 13)) (dSeq (dIf (dtNot (dtE (dCall s__law_is_state (dCons (dCall s_begin_state (dCons (dVar 4) (dCons (dVar 13) (dNil)))) (dCons (dOp oAdd (dVar 13) (dL oTuple (dCons (dLc (dRng1 (dCons (dOp oSub (dOp oIx (dVar 3) (dC (.int 1))) (dL oLen (dCons (dVar 13) (dNil)))) (dNil))) (.nm 8) dYes (dC (.int 0)) [8]) (dNil)))) (dNil)))))) (dRet (dC (.bl false))) (dNext)) (dSeq (dAsg (dL oList (dCons (dVar 7) (dNil))) (.nm 14)) (dSeq (dFor (dRng1 (dCons (dC (.int 3)) (dNil))) (.nm 15) (dIf (dtB (dOp oNe (dCall s__law_bad (dCons (dVar 4) (dCons (dVar 14) (dCons (dVar 12) (dCons (dVar 15) (dNil)))))) (dVar 9))) (dRet (dC (.bl false))) (dNext))) (dSeq (dIf (dtOr (dtB (dOp oNe (dVar 14) (dVar 7))) (dtB (dOp oGe (dVar 9) (dC (.int 0))))) (dRet (dOp oEq (dVar 14) (dVar 7))) (dNext)) (dSeq (dAsg (dL oSumL (dCons (dLc (dIter (dVar 7)) (.nm 17) dYes (dOp oIx (dCall s__law_deed (dCons (dVar 3) (dCons (dOp oIx (dVar 17) (dC (.int 0))) (dNil)))) (dC (.int 1))) [17]) (dNil))) (.nm 16)) (dSeq (dAsg (dVar 12) (.nm 18)) (dSeq (dFor (dRng1 (dCons (dL oLen (dCons (dVar 7) (dNil))) (dNil))) (.nm 8) (dSeq (dAsg (dCall s__law_after (dCons (dVar 3) (dCons (dOp oIx (dVar 7) (dVar 8)) (dCons (dVar 18) (dNil))))) (.nm 18)) (dIf (dtAnd (dtB (dOp oEq (dVar 8) (dC (.int 0)))) (dtNot (dtE (dCall s__law_is_state (dCons (dCall s_step_state (dCons (dVar 4) (dCons (dOp oIx (dVar 7) (dC (.int 0))) (dCons (dVar 12) (dNil))))) (dCons (dVar 18) (dNil))))))) (dRet (dC (.bl false))) (dNext)))) (dSeq (dIf (dtOr (dtB (dOp (oIs true) (dCall s_check_code (dCons (dVar 4) (dCons (dVar 14) (dNil)))) (dC .non))) (dtNot (dtE (dCall s__law_is_whole (dCons (dCall s_code_price (dCons (dVar 4) (dCons (dVar 14) (dNil)))) (dCons (dVar 16) (dNil))))))) (dRet (dC (.bl false))) (dNext)) (dRet (dCall s__law_is_state (dCons (dCall s_run_code (dCons (dVar 4) (dCons (dVar 14) (dCons (dVar 12) (dNil))))) (dCons (dVar 18) (dNil)))))))))))))))))))))))))))
/-! Book__init__: self 0, width 1, registers 2, words 3, deeds 4, name 5, price 6, formula 7, line 8, calls first_bad_line -/
def b_Book__init__ (cl : CF) (s_first_bad_line : DSp) : DS := dSeq (dSetFld cl "width" (dVar 1) (dVar 0)) (dSeq (dSetFld cl "registers" (dVar 2) (dVar 0)) (dSeq (dSetFld cl "words" (dL oTuple (dCons (dVar 3) (dNil))) (dVar 0)) (dSeq (dSetFld cl "deeds" (dL oTuple (dCons (dLc (dIter (dVar 4)) (.tp [5, 6, 7]) dYes (dTup (dCons (dVar 5) (dCons (dVar 6) (dCons (dVar 7) (dNil))))) [5, 6, 7]) (dNil))) (dVar 0)) (dSeq (dAsg (dCall s_first_bad_line (dCons (dVar 0) (dNil))) (.nm 8)) (dIf (dtB (dOp oGt (dVar 8) (dC (.int 0)))) (dNever) (dNext))))))
/-! Bookdeed: self 0, name 1, row 2, -/
def b_Bookdeed (cl : CF) : DS := dSeq (dFor (dIter (dFld cl "deeds" (dVar 0))) (.nm 2) (dIf (dtB (dOp oEq (dOp oIx (dVar 2) (dC (.int 0))) (dVar 1))) (dRet (dVar 2)) (dNext))) (dNever)
/-! Bookdeed_x: self 0, name 1, row 2, -/
def b_Bookdeed_x (cl : CF) (c_NoName : Addr) : DS := dSeq (dFor (dIter (dFld cl "deeds" (dVar 0))) (.nm 2) (dIf (dtB (dOp oEq (dOp oIx (dVar 2) (dC (.int 0))) (dVar 1))) (dRet (dVar 2)) (dNext))) (dRaise c_NoName "name" okStrD (dVar 1))
/-! Bookis_step: self 0, step 1, name 2, sources 3, word 4, target 5, row 6, source 7, calls source_count takes_word -/
def b_Bookis_step (cl : CF) (s_source_count s_takes_word : DSp) : DS := dSeq (dAsg (dVar 1) (.tp [2, 3, 4, 5])) (dSeq (dFor (dIter (dFld cl "deeds" (dVar 0))) (.nm 6) (dIf (dtB (dOp oEq (dOp oIx (dVar 6) (dC (.int 0))) (dVar 2))) (dSeq (dIf (dtOr (dtB (dOp oNe (dL oLen (dCons (dVar 3) (dNil))) (dCall s_source_count (dCons (dOp oIx (dVar 6) (dC (.int 2))) (dNil))))) (dtNot (dtB (dChain oLe oLt (dC (.int 0)) (dVar 5) (dFld cl "registers" (dVar 0)))))) (dRet (dC (.bl false))) (dNext)) (dSeq (dIf (dtOr (dtB (dOp oNe (dCall s_takes_word (dCons (dOp oIx (dVar 6) (dC (.int 2))) (dNil))) (dOp (oIs true) (dVar 4) (dC .non)))) (dtAnd (dtB (dOp (oIs true) (dVar 4) (dC .non))) (dtB (dOp (oIn true) (dVar 4) (dFld cl "words" (dVar 0)))))) (dRet (dC (.bl false))) (dNext)) (dRet (dL oAllL (dCons (dLc (dIter (dVar 3)) (.nm 7) dYes (dChain oLe oLt (dC (.int 0)) (dVar 7) (dFld cl "registers" (dVar 0))) [7]) (dNil)))))) (dNext))) (dRet (dC (.bl false))))
/-! Booksteps: self 0, found 1, name 2, price 3, formula 4, words 5, sources 6, word 7, target 8, calls takes_word source_rows source_count -/
def b_Booksteps (cl : CF) (s_takes_word s_source_rows s_source_count : DSp) : DS := dSeq (dAsg (dLst (dNil)) (.nm 1)) (dSeq (dFor (dIter (dFld cl "deeds" (dVar 0))) (.tp [2, 3, 4]) (dSeq (dAsg (dLst (dCons (dC .non) (dNil))) (.nm 5)) (dSeq (dIf (dtE (dCall s_takes_word (dCons (dVar 4) (dNil)))) (dAsg (dL oList (dCons (dFld cl "words" (dVar 0)) (dNil))) (.nm 5)) (dNext)) (dFor (dIter (dCall s_source_rows (dCons (dFld cl "registers" (dVar 0)) (dCons (dCall s_source_count (dCons (dVar 4) (dNil))) (dNil))))) (.nm 6) (dFor (dIter (dVar 5)) (.nm 7) (dFor (dRng1 (dCons (dFld cl "registers" (dVar 0)) (dNil))) (.nm 8) (dDrop (dApp (dVar 1) (dTup (dCons (dVar 2) (dCons (dVar 6) (dCons (dVar 7) (dCons (dVar 8) (dNil)))))))))))))) (dRet (dVar 1)))
/-! Bookcodes_within: self 0, most 1, counts 2, total 3, many 4, name 5, price 6, formula 7, calls step_count -/
def b_Bookcodes_within (cl : CF) (s_step_count : DSp) : DS := dSeq (dAsg (dLst (dCons (dC (.int 1)) (dNil))) (.nm 2)) (dSeq (dFor (dRng2 (dCons (dC (.int 1)) (dCons (dOp oAdd (dVar 1) (dC (.int 1))) (dNil)))) (.nm 3) (dSeq (dAsg (dC (.int 0)) (.nm 4)) (dSeq (dFor (dIter (dFld cl "deeds" (dVar 0))) (.tp [5, 6, 7]) (dIf (dtB (dOp oLe (dVar 6) (dVar 3))) (dAsg (dOp oAdd (dVar 4) (dOp oMul (dCall s_step_count (dCons (dVar 0) (dCons (dVar 7) (dNil)))) (dOp oIx (dVar 2) (dOp oSub (dVar 3) (dVar 6))))) (.nm 4)) (dNext))) (dDrop (dApp (dVar 2) (dVar 4)))))) (dRet (dL oSumL (dCons (dVar 2) (dNil)))))
end Bd

set_option Elab.async false
set_option linter.all false
set_option autoImplicit false
set_option maxRecDepth 100000
set_option maxHeartbeats 4000000
namespace K88
open PySem PySem.Spec PyProof.Rows L2 DH Bd
def top (i : Nat) : Stmt := PySem.Challenge.pw_noneshorter_k88_book_runs.main.body.getD i (.Pass ⟨0, 0, 0, 0⟩)
def met (i j : Nat) : Stmt := match top i with
  | .ClassDef (body := b) .. => b.getD j (.Pass ⟨0, 0, 0, 0⟩)
  | s => s
/-- the names of the top -/
structure Gb (K : PySem.W.Frag) (w : World) (mg : Str → Option Value) : Prop where
  ValueError : mg "ValueError" = none
  abs : mg "abs" = none
  all : mg "all" = none
  bool : mg "bool" = none
  int : mg "int" = none
  isinstance : mg "isinstance" = none
  len : mg "len" = none
  list : mg "list" = none
  min : mg "min" = none
  range : mg "range" = none
  str : mg "str" = none
  sum : mg "sum" = none
  tuple : mg "tuple" = none
  zip : mg "zip" = none
  c_ARITY : ∃ a, mg "ARITY" = some (.ref a) ∧ KdAt K w a kv_ARITY
  c_LETTERS : ∃ t, mg "LETTERS" = some (.str "abcdefghijklmnopqrstuvwxyz" t)
  c_DIGITS : ∃ t, mg "DIGITS" = some (.str "0123456789" t)
  c_MOST_DEPTH : ∃ t, mg "MOST_DEPTH" = some (.int 6 t)
  c_MOST_STEPS : ∃ t, mg "MOST_STEPS" = some (.int 200 t)
  c_MOST_STATE_BITS : ∃ t, mg "MOST_STATE_BITS" = some (.int 8 t)
  c_MOST_DEEDS : ∃ t, mg "MOST_DEEDS" = some (.int 6 t)
  c_MOST_PRICE : ∃ t, mg "MOST_PRICE" = some (.int 9 t)
  c_DEED_SIZE : ∃ t, mg "DEED_SIZE" = some (.int 9 t)
section
variable {P : Program} {w : World} {K : PySem.W.Frag} {mg : Str → Option Value} {base : Heap} {k : Nat}
def nm_word_limit : List Str := ["width"]
theorem sc_word_limit : FnScope nm_word_limit ["width"] (defScope (top 8)) := ⟨rfl, rfl, rfl, by decide +kernel, rfl, by decide +kernel, by decide +kernel⟩
theorem d_word_limit (G : Gb K w mg) (T : Top K mg "word_limit" (top 8)) {sp : DSp} (len : ∀ ds M Q E, sp ds M Q E → ds.length = 1)
    (hq : ∀ ds M Q E, sp ds M Q E → b_word_limit { nx := fun _ M' => Q .non M', rt := Q } (startD 1 ds) M) : Cal P w K mg base (k + 1) "word_limit" ["width"] sp := by
  refine cal_mk (N := nm_word_limit) T sc_word_limit (fun _ _ _ _ _ _ us hl => match us, hl with | [_], _ => rfl) (fun f cdv A outer s H E hr => ?_) len hq
  have hu := hu66 hr
  have hu1 := hu_of hr
  exact rss_one (rs_ret (re_shl (re_int) (re_var 0 (pv 0))))
def nm_signed_value : List Str := ["width", "word"]
theorem sc_signed_value : FnScope nm_signed_value ["width", "word"] (defScope (top 9)) := ⟨rfl, rfl, rfl, by decide +kernel, rfl, by decide +kernel, by decide +kernel⟩
theorem d_signed_value {s_word_limit : DSp} (G : Gb K w mg) (C_word_limit : Cal P w K mg base k "word_limit" ["width"] s_word_limit) (T : Top K mg "signed_value" (top 9)) {sp : DSp} (len : ∀ ds M Q E, sp ds M Q E → ds.length = 2)
    (hq : ∀ ds M Q E, sp ds M Q E → b_signed_value s_word_limit { nx := fun _ M' => Q .non M', rt := Q } (startD 2 ds) M) : Cal P w K mg base (k + 1) "signed_value" ["width", "word"] sp := by
  refine cal_mk (N := nm_signed_value) T sc_signed_value (fun _ _ _ _ _ _ us hl => match us, hl with | [_, _], _ => rfl) (fun f cdv A outer s H E hr => ?_) len hq
  have hu := hu66 hr
  have hu1 := hu_of hr
  exact rss_cons (rs_if (rt_cmp (op_ge) (rr_ge) (re_var 1 (pv 1)) (re_fdiv (re_cal C_word_limit hr (ra_cons (re_var 0 (pv 0)) (ra_nil))) (re_int)) (nomark _)) (rss_one (rs_ret (re_sub (re_var 1 (pv 1)) (re_cal C_word_limit hr (ra_cons (re_var 0 (pv 0)) (ra_nil)))))) (rss_nil)) (rss_one (rs_ret (re_var 1 (pv 1))))
def nm_operate_one : List Str := ["name", "width", "word"]
theorem sc_operate_one : FnScope nm_operate_one ["name", "width", "word"] (defScope (top 10)) := ⟨rfl, rfl, rfl, by decide +kernel, rfl, by decide +kernel, by decide +kernel⟩
theorem d_operate_one {s_word_limit : DSp} (G : Gb K w mg) (C_word_limit : Cal P w K mg base k "word_limit" ["width"] s_word_limit) (T : Top K mg "operate_one" (top 10)) {sp : DSp} (len : ∀ ds M Q E, sp ds M Q E → ds.length = 3)
    (hq : ∀ ds M Q E, sp ds M Q E → b_operate_one s_word_limit { nx := fun _ M' => Q .non M', rt := Q } (startD 3 ds) M) : Cal P w K mg base (k + 1) "operate_one" ["name", "width", "word"] sp := by
  refine cal_mk (N := nm_operate_one) T sc_operate_one (fun _ _ _ _ _ _ us hl => match us, hl with | [_, _, _], _ => rfl) (fun f cdv A outer s H E hr => ?_) len hq
  have hu := hu66 hr
  have hu1 := hu_of hr
  exact rss_cons (rs_if (rt_cmp (op_eqA hu) (rr_eq) (re_var 0 (pv 0)) (re_str) (nomark _)) (rss_one (rs_ret (re_sub (re_sub (re_cal C_word_limit hr (ra_cons (re_var 1 (pv 1)) (ra_nil))) (re_int)) (re_var 2 (pv 2))))) (rss_nil)) (rss_one (rs_ret (re_band (re_sub (re_cal C_word_limit hr (ra_cons (re_var 1 (pv 1)) (ra_nil))) (re_var 2 (pv 2))) (re_sub (re_cal C_word_limit hr (ra_cons (re_var 1 (pv 1)) (ra_nil))) (re_int)))))
def nm_operate_bits : List Str := ["name", "one", "other"]
theorem sc_operate_bits : FnScope nm_operate_bits ["name", "one", "other"] (defScope (top 11)) := ⟨rfl, rfl, rfl, by decide +kernel, rfl, by decide +kernel, by decide +kernel⟩
theorem d_operate_bits (G : Gb K w mg) (T : Top K mg "operate_bits" (top 11)) {sp : DSp} (len : ∀ ds M Q E, sp ds M Q E → ds.length = 3)
    (hq : ∀ ds M Q E, sp ds M Q E → b_operate_bits { nx := fun _ M' => Q .non M', rt := Q } (startD 3 ds) M) : Cal P w K mg base (k + 1) "operate_bits" ["name", "one", "other"] sp := by
  refine cal_mk (N := nm_operate_bits) T sc_operate_bits (fun _ _ _ _ _ _ us hl => match us, hl with | [_, _, _], _ => rfl) (fun f cdv A outer s H E hr => ?_) len hq
  have hu := hu66 hr
  have hu1 := hu_of hr
  exact rss_cons (rs_if (rt_cmp (op_eqA hu) (rr_eq) (re_var 0 (pv 0)) (re_str) (nomark _)) (rss_one (rs_ret (re_band (re_var 1 (pv 1)) (re_var 2 (pv 2))))) (rss_nil)) (rss_cons (rs_if (rt_cmp (op_eqA hu) (rr_eq) (re_var 0 (pv 0)) (re_str) (nomark _)) (rss_one (rs_ret (re_bor (re_var 1 (pv 1)) (re_var 2 (pv 2))))) (rss_nil)) (rss_one (rs_ret (re_bxor (re_var 1 (pv 1)) (re_var 2 (pv 2))))))
def nm_operate_sum : List Str := ["name", "width", "one", "other", "mask"]
theorem sc_operate_sum : FnScope nm_operate_sum ["name", "width", "one", "other"] (defScope (top 12)) := ⟨rfl, rfl, rfl, by decide +kernel, rfl, by decide +kernel, by decide +kernel⟩
theorem d_operate_sum {s_word_limit : DSp} (G : Gb K w mg) (C_word_limit : Cal P w K mg base k "word_limit" ["width"] s_word_limit) (T : Top K mg "operate_sum" (top 12)) {sp : DSp} (len : ∀ ds M Q E, sp ds M Q E → ds.length = 4)
    (hq : ∀ ds M Q E, sp ds M Q E → b_operate_sum s_word_limit { nx := fun _ M' => Q .non M', rt := Q } (startD 5 ds) M) : Cal P w K mg base (k + 1) "operate_sum" ["name", "width", "one", "other"] sp := by
  refine cal_mk (N := nm_operate_sum) T sc_operate_sum (fun _ _ _ _ _ _ us hl => match us, hl with | [_, _, _, _], _ => rfl) (fun f cdv A outer s H E hr => ?_) len hq
  have hu := hu66 hr
  have hu1 := hu_of hr
  exact rss_cons (rs_set (i := 4) sc_operate_sum.nd rfl (by first | exact .inl rfl | exact .inr rfl) (re_sub (re_cal C_word_limit hr (ra_cons (re_var 1 (pv 1)) (ra_nil))) (re_int))) (rss_cons (rs_if (rt_cmp (op_eqA hu) (rr_eq) (re_var 0 (pv 0)) (re_str) (nomark _)) (rss_one (rs_ret (re_band (re_add (re_var 2 (pv 2)) (re_var 3 (pv 3))) (re_var 4 (pv 4))))) (rss_nil)) (rss_cons (rs_if (rt_cmp (op_eqA hu) (rr_eq) (re_var 0 (pv 0)) (re_str) (nomark _)) (rss_one (rs_ret (re_band (re_sub (re_var 2 (pv 2)) (re_var 3 (pv 3))) (re_var 4 (pv 4))))) (rss_nil)) (rss_cons (rs_if (rt_cmp (op_eqA hu) (rr_eq) (re_var 0 (pv 0)) (re_str) (nomark _)) (rss_one (rs_ret (re_band (re_mul (re_var 2 (pv 2)) (re_var 3 (pv 3))) (re_var 4 (pv 4))))) (rss_nil)) (rss_cons (rs_if (rt_cmp (op_eqA hu) (rr_eq) (re_var 0 (pv 0)) (re_str) (nomark _)) (rss_one (rs_ret (re_band (re_shl (re_var 2 (pv 2)) (re_var 3 (pv 3))) (re_var 4 (pv 4))))) (rss_nil)) (rss_one (rs_ret (re_shr (re_var 2 (pv 2)) (re_var 3 (pv 3)))))))))
def nm_operate_order : List Str := ["name", "width", "one", "other"]
theorem sc_operate_order : FnScope nm_operate_order ["name", "width", "one", "other"] (defScope (top 13)) := ⟨rfl, rfl, rfl, by decide +kernel, rfl, by decide +kernel, by decide +kernel⟩
theorem d_operate_order {s_signed_value : DSp} (G : Gb K w mg) (C_signed_value : Cal P w K mg base k "signed_value" ["width", "word"] s_signed_value) (T : Top K mg "operate_order" (top 13)) {sp : DSp} (len : ∀ ds M Q E, sp ds M Q E → ds.length = 4)
    (hq : ∀ ds M Q E, sp ds M Q E → b_operate_order s_signed_value { nx := fun _ M' => Q .non M', rt := Q } (startD 4 ds) M) : Cal P w K mg base (k + 1) "operate_order" ["name", "width", "one", "other"] sp := by
  refine cal_mk (N := nm_operate_order) T sc_operate_order (fun _ _ _ _ _ _ us hl => match us, hl with | [_, _, _, _], _ => rfl) (fun f cdv A outer s H E hr => ?_) len hq
  have hu := hu66 hr
  have hu1 := hu_of hr
  exact rss_cons (rs_if (rt_cmp (op_eqA hu) (rr_eq) (re_var 0 (pv 0)) (re_str) (nomark _)) (rss_one (rs_ret (re_callTy rl_int1 call_int1 rfl G.int (by decide +kernel) (ra_cons (re_cmp (op_eqA hu) (rr_eq) (re_var 2 (pv 2)) (re_var 3 (pv 3)) (nomark _)) (ra_nil))))) (rss_nil)) (rss_cons (rs_if (rt_cmp (op_eqA hu) (rr_eq) (re_var 0 (pv 0)) (re_str) (nomark _)) (rss_one (rs_ret (re_callTy rl_int1 call_int1 rfl G.int (by decide +kernel) (ra_cons (re_cmp (op_lt) (rr_lt) (re_var 2 (pv 2)) (re_var 3 (pv 3)) (nomark _)) (ra_nil))))) (rss_nil)) (rss_one (rs_ret (re_callTy rl_int1 call_int1 rfl G.int (by decide +kernel) (ra_cons (re_cmp (op_lt) (rr_lt) (re_cal C_signed_value hr (ra_cons (re_var 1 (pv 1)) (ra_cons (re_var 2 (pv 2)) (ra_nil)))) (re_cal C_signed_value hr (ra_cons (re_var 1 (pv 1)) (ra_cons (re_var 3 (pv 3)) (ra_nil)))) (nomark _)) (ra_nil))))))
def nm_operate : List Str := ["name", "width", "args"]
theorem sc_operate : FnScope nm_operate ["name", "width", "args"] (defScope (top 14)) := ⟨rfl, rfl, rfl, by decide +kernel, rfl, by decide +kernel, by decide +kernel⟩
theorem d_operate {s_operate_one s_operate_bits s_operate_order s_operate_sum : DSp} (G : Gb K w mg) (C_operate_one : Cal P w K mg base k "operate_one" ["name", "width", "word"] s_operate_one) (C_operate_bits : Cal P w K mg base k "operate_bits" ["name", "one", "other"] s_operate_bits) (C_operate_order : Cal P w K mg base k "operate_order" ["name", "width", "one", "other"] s_operate_order) (C_operate_sum : Cal P w K mg base k "operate_sum" ["name", "width", "one", "other"] s_operate_sum) (T : Top K mg "operate" (top 14)) {sp : DSp} (len : ∀ ds M Q E, sp ds M Q E → ds.length = 3)
    (hq : ∀ ds M Q E, sp ds M Q E → b_operate s_operate_one s_operate_bits s_operate_order s_operate_sum { nx := fun _ M' => Q .non M', rt := Q } (startD 3 ds) M) : Cal P w K mg base (k + 1) "operate" ["name", "width", "args"] sp := by
  refine cal_mk (N := nm_operate) T sc_operate (fun _ _ _ _ _ _ us hl => match us, hl with | [_, _, _], _ => rfl) (fun f cdv A outer s H E hr => ?_) len hq
  have hu := hu66 hr
  have hu1 := hu_of hr
  exact rss_cons (rs_if (rt_cmp (op_eqA hu) (rr_eq) (re_var 0 (pv 0)) (re_str) (nomark _)) (rss_cons (rs_if (rt_cmp (op_neA hu) (rr_ne) (re_ix (ix_all hu1) rr_ix (re_var 2 (pv 2)) (re_int) (fun _ _ => rfl)) (re_int) (nomark _)) (rss_one (rs_ret (re_ix (ix_all hu1) rr_ix (re_var 2 (pv 2)) (re_int) (fun _ _ => rfl)))) (rss_nil)) (rss_one (rs_ret (re_ix (ix_all hu1) rr_ix (re_var 2 (pv 2)) (re_int) (fun _ _ => rfl))))) (rss_nil)) (rss_cons (rs_if (rt_cmp (op_eqA hu) (rr_eq) (re_callB rl_len call_lenA rfl G.len (by decide +kernel) (ra_cons (re_var 2 (pv 2)) (ra_nil))) (re_int) (nomark _)) (rss_one (rs_ret (re_cal C_operate_one hr (ra_cons (re_var 0 (pv 0)) (ra_cons (re_var 1 (pv 1)) (ra_cons (re_ix (ix_all hu1) rr_ix (re_var 2 (pv 2)) (re_int) (fun _ _ => rfl)) (ra_nil))))))) (rss_nil)) (rss_cons (rs_if (rt_cmp (op_inA hu1) (rr_in (neg := false)) (re_var 0 (pv 0)) (re_tup (ra_cons (re_str) (ra_cons (re_str) (ra_cons (re_str) (ra_nil))))) rfl) (rss_one (rs_ret (re_cal C_operate_bits hr (ra_cons (re_var 0 (pv 0)) (ra_cons (re_ix (ix_all hu1) rr_ix (re_var 2 (pv 2)) (re_int) (fun _ _ => rfl)) (ra_cons (re_ix (ix_all hu1) rr_ix (re_var 2 (pv 2)) (re_int) (fun _ _ => rfl)) (ra_nil))))))) (rss_nil)) (rss_cons (rs_if (rt_cmp (op_inA hu1) (rr_in (neg := false)) (re_var 0 (pv 0)) (re_tup (ra_cons (re_str) (ra_cons (re_str) (ra_cons (re_str) (ra_nil))))) rfl) (rss_one (rs_ret (re_cal C_operate_order hr (ra_cons (re_var 0 (pv 0)) (ra_cons (re_var 1 (pv 1)) (ra_cons (re_ix (ix_all hu1) rr_ix (re_var 2 (pv 2)) (re_int) (fun _ _ => rfl)) (ra_cons (re_ix (ix_all hu1) rr_ix (re_var 2 (pv 2)) (re_int) (fun _ _ => rfl)) (ra_nil)))))))) (rss_nil)) (rss_one (rs_ret (re_cal C_operate_sum hr (ra_cons (re_var 0 (pv 0)) (ra_cons (re_var 1 (pv 1)) (ra_cons (re_ix (ix_all hu1) rr_ix (re_var 2 (pv 2)) (re_int) (fun _ _ => rfl)) (ra_cons (re_ix (ix_all hu1) rr_ix (re_var 2 (pv 2)) (re_int) (fun _ _ => rfl)) (ra_nil)))))))))))
def nm_is_name : List Str := ["name", "char"]
theorem sc_is_name : FnScope nm_is_name ["name"] (defScope (top 19)) := ⟨rfl, rfl, rfl, by decide +kernel, rfl, by decide +kernel, by decide +kernel⟩
theorem d_is_name (G : Gb K w mg) (T : Top K mg "is_name" (top 19)) {sp : DSp} (len : ∀ ds M Q E, sp ds M Q E → ds.length = 1)
    (hq : ∀ ds M Q E, sp ds M Q E → b_is_name { nx := fun _ M' => Q .non M', rt := Q } (startD 2 ds) M) : Cal P w K mg base (k + 1) "is_name" ["name"] sp := by
  refine cal_mk (N := nm_is_name) T sc_is_name (fun _ _ _ _ _ _ us hl => match us, hl with | [_], _ => rfl) (fun f cdv A outer s H E hr => ?_) len hq
  have hu := hu66 hr
  have hu1 := hu_of hr
  exact rss_cons (rs_if (PW.pt (rw_or (rt_not (rt_chain (op_le) (rr_le) (op_le) (rr_le) (re_int) (re_callB rl_len call_lenA rfl G.len (by decide +kernel) (ra_cons (re_var 0 (pv 0)) (ra_nil))) (re_int))) (rw_or1 (rt_cmp (op_notInA hu1) (rr_in (neg := true)) (re_ix (ix_all hu1) rr_ix (re_var 0 (pv 0)) (re_int) (fun _ _ => rfl)) (re_gstr G.c_LETTERS) rfl)))) (rss_one (rs_ret (re_bl))) (rss_nil)) (rss_cons (rs_for PassesOwn.never rfl (ri_val (re_var 0 (pv 0))) (ptg_name (pg_name (i := 1) sc_is_name.nd rfl (by first | exact .inl rfl | exact .inr rfl))) (rss_one (rs_if (PW.pt (rw_and (rt_cmp (op_notInA hu1) (rr_in (neg := true)) (re_var 1 (pv 1)) (re_gstr G.c_LETTERS) rfl) (rw_and1 (rt_cmp (op_notInA hu1) (rr_in (neg := true)) (re_var 1 (pv 1)) (re_gstr G.c_DIGITS) rfl)))) (rss_one (rs_ret (re_bl))) (rss_nil)))) (rss_one (rs_ret (re_bl))))
def nm_formula_size : List Str := ["formula", "total", "part"]
theorem sc_formula_size : FnScope nm_formula_size ["formula"] (defScope (top 20)) := ⟨rfl, rfl, rfl, by decide +kernel, rfl, by decide +kernel, by decide +kernel⟩
theorem d_formula_size {s_formula_size : DSp} (G : Gb K w mg) (C_formula_size : Cal P w K mg base k "formula_size" ["formula"] s_formula_size) (T : Top K mg "formula_size" (top 20)) {sp : DSp} (len : ∀ ds M Q E, sp ds M Q E → ds.length = 1)
    (hq : ∀ ds M Q E, sp ds M Q E → b_formula_size s_formula_size { nx := fun _ M' => Q .non M', rt := Q } (startD 3 ds) M) : Cal P w K mg base (k + 1) "formula_size" ["formula"] sp := by
  refine cal_mk (N := nm_formula_size) T sc_formula_size (fun _ _ _ _ _ _ us hl => match us, hl with | [_], _ => rfl) (fun f cdv A outer s H E hr => ?_) len hq
  have hu := hu66 hr
  have hu1 := hu_of hr
  exact rss_cons (rs_if (rt_val (re_isi2 .int .str (re_var 0 (pv 0)) (pe_ty .int G.int) (pe_ty .str G.str) rfl G.isinstance)) (rss_one (rs_ret (re_int))) (rss_nil)) (rss_cons (rs_set (i := 1) sc_formula_size.nd rfl (by first | exact .inl rfl | exact .inr rfl) (re_int)) (rss_cons (rs_for PassesOwn.never rfl (ri_val (re_slice (re_var 0 (pv 0)) (ro_some (re_int)) ro_none)) (ptg_name (pg_name (i := 2) sc_formula_size.nd rfl (by first | exact .inl rfl | exact .inr rfl))) (rss_one (rs_set (i := 1) sc_formula_size.nd rfl (by first | exact .inl rfl | exact .inr rfl) (re_add (re_var 1 (pv 1)) (re_cal C_formula_size hr (ra_cons (re_var 2 (pv 2)) (ra_nil))))))) (rss_one (rs_ret (re_var 1 (pv 1))))))
def nm_is_shaped : List Str := ["formula", "width", "names", "depth", "part"]
theorem sc_is_shaped : FnScope nm_is_shaped ["formula", "width", "names", "depth"] (defScope (top 21)) := ⟨rfl, rfl, rfl, by decide +kernel, rfl, by decide +kernel, by decide +kernel⟩
theorem d_is_shaped {s_word_limit s_is_shaped : DSp} (G : Gb K w mg) (C_word_limit : Cal P w K mg base k "word_limit" ["width"] s_word_limit) (C_is_shaped : Cal P w K mg base k "is_shaped" ["formula", "width", "names", "depth"] s_is_shaped) (T : Top K mg "is_shaped" (top 21)) {sp : DSp} (len : ∀ ds M Q E, sp ds M Q E → ds.length = 4)
    (hq : ∀ ds M Q E, sp ds M Q E → b_is_shaped s_word_limit s_is_shaped { nx := fun _ M' => Q .non M', rt := Q } (startD 5 ds) M) : Cal P w K mg base (k + 1) "is_shaped" ["formula", "width", "names", "depth"] sp := by
  refine cal_mk (N := nm_is_shaped) T sc_is_shaped (fun _ _ _ _ _ _ us hl => match us, hl with | [_, _, _, _], _ => rfl) (fun f cdv A outer s H E hr => ?_) len hq
  have hu := hu66 hr
  have hu1 := hu_of hr
  exact rss_cons (rs_if (rt_val (re_isi .int (re_var 0 (pv 0)) (pe_ty .int G.int) rfl G.isinstance)) (rss_one (rs_ret (re_chain (op_le) (rr_le) (op_lt) (rr_lt) (re_int) (re_var 0 (pv 0)) (re_cal C_word_limit hr (ra_cons (re_var 1 (pv 1)) (ra_nil)))))) (rss_nil)) (rss_cons (rs_if (rt_val (re_isi .str (re_var 0 (pv 0)) (pe_ty .str G.str) rfl G.isinstance)) (rss_one (rs_ret (re_cmp (op_inA hu1) (rr_in (neg := false)) (re_var 0 (pv 0)) (re_var 2 (pv 2)) rfl))) (rss_nil)) (rss_cons (rs_if (PW.pt (rw_or (rt_cmp (op_eqA hu) (rr_eq) (re_var 3 (pv 3)) (re_int) (nomark _)) (rw_or (rt_cmp (op_eqA hu) (rr_eq) (re_callB rl_len call_lenA rfl G.len (by decide +kernel) (ra_cons (re_var 0 (pv 0)) (ra_nil))) (re_int) (nomark _)) (rw_or1 (rt_not (rt_val (re_isi .str (re_ix (ix_all hu1) rr_ix (re_var 0 (pv 0)) (re_int) (fun _ _ => rfl)) (pe_ty .str G.str) rfl G.isinstance))))))) (rss_one (rs_ret (re_bl))) (rss_nil)) (rss_cons (rs_if (PW.pt (rw_or (rt_cmp (op_notInA hu1) (rr_in (neg := true)) (re_ix (ix_all hu1) rr_ix (re_var 0 (pv 0)) (re_int) (fun _ _ => rfl)) (re_gkd G.c_ARITY) rfl) (rw_or1 (rt_cmp (op_neA hu) (rr_ne) (re_callB rl_len call_lenA rfl G.len (by decide +kernel) (ra_cons (re_var 0 (pv 0)) (ra_nil))) (re_add (re_int) (re_ix (ix_all hu1) rr_ix (re_gkd G.c_ARITY) (re_ix (ix_all hu1) rr_ix (re_var 0 (pv 0)) (re_int) (fun _ _ => rfl)) (fun _ _ => rfl))) (nomark _))))) (rss_one (rs_ret (re_bl))) (rss_nil)) (rss_cons (rs_for PassesOwn.never rfl (ri_val (re_slice (re_var 0 (pv 0)) (ro_some (re_int)) ro_none)) (ptg_name (pg_name (i := 4) sc_is_shaped.nd rfl (by first | exact .inl rfl | exact .inr rfl))) (rss_one (rs_if (rt_not (rt_val (re_cal C_is_shaped hr (ra_cons (re_var 4 (pv 4)) (ra_cons (re_var 1 (pv 1)) (ra_cons (re_var 2 (pv 2)) (ra_cons (re_sub (re_var 3 (pv 3)) (re_int)) (ra_nil)))))))) (rss_one (rs_ret (re_bl))) (rss_nil)))) (rss_one (rs_ret (re_bl)))))))
def nm_is_formula : List Str := ["formula", "width", "names", "most"]
theorem sc_is_formula : FnScope nm_is_formula ["formula", "width", "names", "most"] (defScope (top 22)) := ⟨rfl, rfl, rfl, by decide +kernel, rfl, by decide +kernel, by decide +kernel⟩
theorem d_is_formula {s_is_shaped s_formula_size : DSp} (G : Gb K w mg) (C_is_shaped : Cal P w K mg base k "is_shaped" ["formula", "width", "names", "depth"] s_is_shaped) (C_formula_size : Cal P w K mg base k "formula_size" ["formula"] s_formula_size) (T : Top K mg "is_formula" (top 22)) {sp : DSp} (len : ∀ ds M Q E, sp ds M Q E → ds.length = 4)
    (hq : ∀ ds M Q E, sp ds M Q E → b_is_formula s_is_shaped s_formula_size { nx := fun _ M' => Q .non M', rt := Q } (startD 4 ds) M) : Cal P w K mg base (k + 1) "is_formula" ["formula", "width", "names", "most"] sp := by
  refine cal_mk (N := nm_is_formula) T sc_is_formula (fun _ _ _ _ _ _ us hl => match us, hl with | [_, _, _, _], _ => rfl) (fun f cdv A outer s H E hr => ?_) len hq
  have hu := hu66 hr
  have hu1 := hu_of hr
  exact rss_one (rs_ret (re_and (re_cal C_is_shaped hr (ra_cons (re_var 0 (pv 0)) (ra_cons (re_var 1 (pv 1)) (ra_cons (re_var 2 (pv 2)) (ra_cons (re_gint G.c_MOST_DEPTH) (ra_nil)))))) (re_one (re_cmp (op_le) (rr_le) (re_cal C_formula_size hr (ra_cons (re_var 0 (pv 0)) (ra_nil))) (re_var 3 (pv 3)) (nomark _)))))
def nm_formula_names : List Str := ["formula", "found", "part", "name"]
theorem sc_formula_names : FnScope nm_formula_names ["formula"] (defScope (top 23)) := ⟨rfl, rfl, rfl, by decide +kernel, rfl, by decide +kernel, by decide +kernel⟩
theorem d_formula_names {s_formula_names : DSp} (G : Gb K w mg) (C_formula_names : Cal P w K mg base k "formula_names" ["formula"] s_formula_names) (T : Top K mg "formula_names" (top 23)) {sp : DSp} (len : ∀ ds M Q E, sp ds M Q E → ds.length = 1)
    (hq : ∀ ds M Q E, sp ds M Q E → b_formula_names s_formula_names { nx := fun _ M' => Q .non M', rt := Q } (startD 4 ds) M) : Cal P w K mg base (k + 1) "formula_names" ["formula"] sp := by
  refine cal_mk (N := nm_formula_names) T sc_formula_names (fun _ _ _ _ _ _ us hl => match us, hl with | [_], _ => rfl) (fun f cdv A outer s H E hr => ?_) len hq
  have hu := hu66 hr
  have hu1 := hu_of hr
  exact rss_cons (rs_if (rt_val (re_isi .int (re_var 0 (pv 0)) (pe_ty .int G.int) rfl G.isinstance)) (rss_one (rs_ret (re_lst (ra_nil)))) (rss_nil)) (rss_cons (rs_if (rt_val (re_isi .str (re_var 0 (pv 0)) (pe_ty .str G.str) rfl G.isinstance)) (rss_one (rs_ret (re_lst (ra_cons (re_var 0 (pv 0)) (ra_nil))))) (rss_nil)) (rss_cons (rs_set (i := 1) sc_formula_names.nd rfl (by first | exact .inl rfl | exact .inr rfl) (re_lst (ra_nil))) (rss_cons (rs_for PassesOwn.never rfl (ri_val (re_slice (re_var 0 (pv 0)) (ro_some (re_int)) ro_none)) (ptg_name (pg_name (i := 2) sc_formula_names.nd rfl (by first | exact .inl rfl | exact .inr rfl))) (rss_one (rs_for PassesOwn.never rfl (ri_val (re_cal C_formula_names hr (ra_cons (re_var 2 (pv 2)) (ra_nil)))) (ptg_name (pg_name (i := 3) sc_formula_names.nd rfl (by first | exact .inl rfl | exact .inr rfl))) (rss_one (rs_if (rt_cmp (op_notInA hu1) (rr_in (neg := true)) (re_var 3 (pv 3)) (re_var 1 (pv 1)) rfl) (rss_one (rs_expr (re_append (re_var 1 (pv 1)) (re_var 3 (pv 3))))) (rss_nil)))))) (rss_one (rs_ret (re_var 1 (pv 1)))))))
def nm_formula_value : List Str := ["formula", "width", "env", "args", "part"]
theorem sc_formula_value : FnScope nm_formula_value ["formula", "width", "env"] (defScope (top 24)) := ⟨rfl, rfl, rfl, by decide +kernel, rfl, by decide +kernel, by decide +kernel⟩
theorem d_formula_value {s_formula_value s_operate : DSp} (G : Gb K w mg) (C_formula_value : Cal P w K mg base k "formula_value" ["formula", "width", "env"] s_formula_value) (C_operate : Cal P w K mg base k "operate" ["name", "width", "args"] s_operate) (T : Top K mg "formula_value" (top 24)) {sp : DSp} (len : ∀ ds M Q E, sp ds M Q E → ds.length = 3)
    (hq : ∀ ds M Q E, sp ds M Q E → b_formula_value s_formula_value s_operate { nx := fun _ M' => Q .non M', rt := Q } (startD 5 ds) M) : Cal P w K mg base (k + 1) "formula_value" ["formula", "width", "env"] sp := by
  refine cal_mk (N := nm_formula_value) T sc_formula_value (fun _ _ _ _ _ _ us hl => match us, hl with | [_, _, _], _ => rfl) (fun f cdv A outer s H E hr => ?_) len hq
  have hu := hu66 hr
  have hu1 := hu_of hr
  exact rss_cons (rs_if (rt_val (re_isi .int (re_var 0 (pv 0)) (pe_ty .int G.int) rfl G.isinstance)) (rss_one (rs_ret (re_var 0 (pv 0)))) (rss_nil)) (rss_cons (rs_if (rt_val (re_isi .str (re_var 0 (pv 0)) (pe_ty .str G.str) rfl G.isinstance)) (rss_one (rs_ret (re_ix (ix_all hu1) rr_ix (re_var 2 (pv 2)) (re_var 0 (pv 0)) (fun _ _ => rfl)))) (rss_nil)) (rss_cons (rs_set (i := 3) sc_formula_value.nd rfl (by first | exact .inl rfl | exact .inr rfl) (re_lst (ra_nil))) (rss_cons (rs_for PassesOwn.never rfl (ri_val (re_slice (re_var 0 (pv 0)) (ro_some (re_int)) ro_none)) (ptg_name (pg_name (i := 4) sc_formula_value.nd rfl (by first | exact .inl rfl | exact .inr rfl))) (rss_one (rs_expr (re_append (re_var 3 (pv 3)) (re_cal C_formula_value hr (ra_cons (re_var 4 (pv 4)) (ra_cons (re_var 1 (pv 1)) (ra_cons (re_var 2 (pv 2)) (ra_nil))))))))) (rss_one (rs_ret (re_cal C_operate hr (ra_cons (re_ix (ix_all hu1) rr_ix (re_var 0 (pv 0)) (re_int) (fun _ _ => rfl)) (ra_cons (re_var 1 (pv 1)) (ra_cons (re_var 3 (pv 3)) (ra_nil))))))))))
def nm_check_code : List Str := ["book", "code", "at"]
theorem sc_check_code : FnScope nm_check_code ["book", "code"] (defScope (top 27)) := ⟨rfl, rfl, rfl, by decide +kernel, rfl, by decide +kernel, by decide +kernel⟩
theorem d_check_code {c_Book : Addr} {s_Bookis_step : DSp} (G : Gb K w mg) (Mt_Bookis_step : CalM P w K mg base k c_Book "is_step" ["self", "step"] s_Bookis_step) (T : Top K mg "check_code" (top 27)) {sp : DSp} (len : ∀ ds M Q E, sp ds M Q E → ds.length = 2)
    (hq : ∀ ds M Q E, sp ds M Q E → b_check_code c_Book s_Bookis_step { nx := fun _ M' => Q .non M', rt := Q } (startD 3 ds) M) : Cal P w K mg base (k + 1) "check_code" ["book", "code"] sp := by
  refine cal_mk (N := nm_check_code) T sc_check_code (fun _ _ _ _ _ _ us hl => match us, hl with | [_, _], _ => rfl) (fun f cdv A outer s H E hr => ?_) len hq
  have hu := hu66 hr
  have hu1 := hu_of hr
  exact rss_one (rs_for PassesOwn.never rfl (ri_rng1 rfl G.range (ra_cons (re_callB rl_len call_lenA rfl G.len (by decide +kernel) (ra_cons (re_var 1 (pv 1)) (ra_nil))) (ra_nil))) (ptg_name (pg_name (i := 2) sc_check_code.nd rfl (by first | exact .inl rfl | exact .inr rfl))) (rss_one (rs_if (PW.pt (rw_or (rt_cmp (op_ge) (rr_ge) (re_var 2 (pv 2)) (re_gint G.c_MOST_STEPS) (nomark _)) (rw_or1 (rt_not (rt_val (re_meth Mt_Bookis_step hr (re_var 0 (pv 0)) (ra_cons (re_ix (ix_all hu1) rr_ix (re_var 1 (pv 1)) (re_var 2 (pv 2)) (fun _ _ => rfl)) (ra_nil)))))))) (rss_one (rs_never)) (rss_nil))))
theorem d_check_codeX {c_Book : Addr} {c_BadCode : Addr} {s_Bookis_step : DSp} (G : Gb K w mg) (M_BadCode : mg "BadCode" = some (.ref c_BadCode)) (E_BadCode : CalE P w K mg base k "BadCode" c_BadCode "at" okNat) (Mt_Bookis_step : CalM P w K mg base (k + 1) c_Book "is_step" ["self", "step"] s_Bookis_step) (T : Top K mg "check_code" (top 27)) {sp : DSp} (len : ∀ ds M Q E, sp ds M Q E → ds.length = 2)
    (hq : ∀ ds M Q E, sp ds M Q E → b_check_code_x c_Book c_BadCode s_Bookis_step { nx := fun _ M' => Q .non M', rt := Q, xc := fun cls d _ M' => E cls d M' } (startD 3 ds) M) : CalX P w K mg base ((k + 1) + 1) "check_code" ["book", "code"] sp := by
  refine calx_mk (N := nm_check_code) T sc_check_code (fun _ _ _ _ _ _ us hl => match us, hl with | [_, _], _ => rfl) (fun f cdv A outer s H E hr => ?_) len hq
  have hu := hu66 hr
  have hu1 := hu_of hr
  exact rss_one (rs_for (passes_of rfl) rfl (ri_rng1 rfl G.range (ra_cons (re_callB rl_len call_lenA rfl G.len (by decide +kernel) (ra_cons (re_var 1 (pv 1)) (ra_nil))) (ra_nil))) (ptg_name (pg_name (i := 2) sc_check_code.nd rfl (by first | exact .inl rfl | exact .inr rfl))) (rss_one (rs_if (PW.pt (rw_or (rt_cmp (op_ge) (rr_ge) (re_var 2 (pv 2)) (re_gint G.c_MOST_STEPS) (nomark _)) (rw_or1 (rt_not (rt_val (re_meth Mt_Bookis_step hr (re_var 0 (pv 0)) (ra_cons (re_ix (ix_all hu1) rr_ix (re_var 1 (pv 1)) (re_var 2 (pv 2)) (fun _ _ => rfl)) (ra_nil)))))))) (rss_one (rs_raise E_BadCode hr okNat_rep rfl (re_var 2 (pv 2)))) (rss_nil))))
def nm_begin_state : List Str := ["book", "row"]
theorem sc_begin_state : FnScope nm_begin_state ["book", "row"] (defScope (top 28)) := ⟨rfl, rfl, rfl, by decide +kernel, rfl, by decide +kernel, by decide +kernel⟩
theorem d_begin_state {cl : CF} (G : Gb K w mg) (hcl : CfOk K cl) (T : Top K mg "begin_state" (top 28)) {sp : DSp} (len : ∀ ds M Q E, sp ds M Q E → ds.length = 2)
    (hq : ∀ ds M Q E, sp ds M Q E → b_begin_state cl { nx := fun _ M' => Q .non M', rt := Q } (startD 2 ds) M) : Cal P w K mg base (k + 1) "begin_state" ["book", "row"] sp := by
  refine cal_mk (N := nm_begin_state) T sc_begin_state (fun _ _ _ _ _ _ us hl => match us, hl with | [_, _], _ => rfl) (fun f cdv A outer s H E hr => ?_) len hq
  have hu := hu66 hr
  have hu1 := hu_of hr
  exact rss_one (rs_ret (re_add (re_callTy rl_tuple call_tuple_of rfl G.tuple (by decide +kernel) (ra_cons (re_var 1 (pv 1)) (ra_nil))) (re_mul (re_tup (ra_cons (re_int) (ra_nil))) (re_sub (re_fld hcl (re_var 0 (pv 0))) (re_callB rl_len call_lenA rfl G.len (by decide +kernel) (ra_cons (re_var 1 (pv 1)) (ra_nil)))))))
def nm_step_word : List Str := ["book", "step", "state", "name", "sources", "word", "target", "env", "letter", "source"]
theorem sc_step_word : FnScope nm_step_word ["book", "step", "state"] (defScope (top 29)) := ⟨rfl, rfl, rfl, by decide +kernel, rfl, by decide +kernel, by decide +kernel⟩
theorem d_step_word {cl : CF} {c_Book : Addr} {s_Bookdeed s_formula_value : DSp} (G : Gb K w mg) (hcl : CfOk K cl) (Mt_Bookdeed : CalM P w K mg base k c_Book "deed" ["self", "name"] s_Bookdeed) (C_formula_value : Cal P w K mg base k "formula_value" ["formula", "width", "env"] s_formula_value) (T : Top K mg "step_word" (top 29)) {sp : DSp} (len : ∀ ds M Q E, sp ds M Q E → ds.length = 3)
    (hq : ∀ ds M Q E, sp ds M Q E → b_step_word cl c_Book s_Bookdeed s_formula_value { nx := fun _ M' => Q .non M', rt := Q } (startD 10 ds) M) : Cal P w K mg base (k + 1) "step_word" ["book", "step", "state"] sp := by
  refine cal_mk (N := nm_step_word) T sc_step_word (fun _ _ _ _ _ _ us hl => match us, hl with | [_, _, _], _ => rfl) (fun f cdv A outer s H E hr => ?_) len hq
  have hu := hu66 hr
  have hu1 := hu_of hr
  exact rss_cons (rs_asg (re_var 1 (pv 1)) (ptg_tup (is := [3, 4, 5, 6]) rfl (pgs_cons (pg_name (i := 3) sc_step_word.nd rfl (by first | exact .inl rfl | exact .inr rfl)) (pgs_cons (pg_name (i := 4) sc_step_word.nd rfl (by first | exact .inl rfl | exact .inr rfl)) (pgs_cons (pg_name (i := 5) sc_step_word.nd rfl (by first | exact .inl rfl | exact .inr rfl)) (pgs_cons (pg_name (i := 6) sc_step_word.nd rfl (by first | exact .inl rfl | exact .inr rfl)) (pgs_nil))))) rfl)) (rss_cons (rs_set (i := 7) sc_step_word.nd rfl (by first | exact .inl rfl | exact .inr rfl) (re_disp (ps := [(dC (.str "k"), dVar 5)]) (pps_cons (re_str) (re_var 5 (pv 5)) (pps_nil)) (by rfl) (by rfl) (fun z => by cases z) (by decide))) (rss_cons (rs_for PassesOwn.never rfl (ri_zip rfl G.zip (ra_cons (re_str) (ra_cons (re_var 4 (pv 4)) (ra_nil)))) (ptg_two rfl (pg_name (i := 8) sc_step_word.nd rfl (by first | exact .inl rfl | exact .inr rfl)) (pg_name (i := 9) sc_step_word.nd rfl (by first | exact .inl rfl | exact .inr rfl))) (rss_one (rs_setIx hu1 (re_var 7 (pv 7)) (re_var 8 (pv 8)) (re_ix (ix_all hu1) rr_ix (re_var 2 (pv 2)) (re_var 9 (pv 9)) (fun _ _ => rfl))))) (rss_one (rs_ret (re_cal C_formula_value hr (ra_cons (re_ix (ix_all hu1) rr_ix (re_meth Mt_Bookdeed hr (re_var 0 (pv 0)) (ra_cons (re_var 3 (pv 3)) (ra_nil))) (re_int) (fun _ _ => rfl)) (ra_cons (re_fld hcl (re_var 0 (pv 0))) (ra_cons (re_var 7 (pv 7)) (ra_nil)))))))))
def nm_step_state : List Str := ["book", "step", "state", "target"]
theorem sc_step_state : FnScope nm_step_state ["book", "step", "state"] (defScope (top 30)) := ⟨rfl, rfl, rfl, by decide +kernel, rfl, by decide +kernel, by decide +kernel⟩
theorem d_step_state {s_step_word : DSp} (G : Gb K w mg) (C_step_word : Cal P w K mg base k "step_word" ["book", "step", "state"] s_step_word) (T : Top K mg "step_state" (top 30)) {sp : DSp} (len : ∀ ds M Q E, sp ds M Q E → ds.length = 3)
    (hq : ∀ ds M Q E, sp ds M Q E → b_step_state s_step_word { nx := fun _ M' => Q .non M', rt := Q } (startD 4 ds) M) : Cal P w K mg base (k + 1) "step_state" ["book", "step", "state"] sp := by
  refine cal_mk (N := nm_step_state) T sc_step_state (fun _ _ _ _ _ _ us hl => match us, hl with | [_, _, _], _ => rfl) (fun f cdv A outer s H E hr => ?_) len hq
  have hu := hu66 hr
  have hu1 := hu_of hr
  exact rss_cons (rs_set (i := 3) sc_step_state.nd rfl (by first | exact .inl rfl | exact .inr rfl) (re_ix (ix_all hu1) rr_ix (re_var 1 (pv 1)) (re_int) (fun _ _ => rfl))) (rss_one (rs_ret (re_add (re_add (re_slice (re_var 2 (pv 2)) ro_none (ro_some (re_var 3 (pv 3)))) (re_tup (ra_cons (re_cal C_step_word hr (ra_cons (re_var 0 (pv 0)) (ra_cons (re_var 1 (pv 1)) (ra_cons (re_var 2 (pv 2)) (ra_nil))))) (ra_nil)))) (re_slice (re_var 2 (pv 2)) (ro_some (re_add (re_var 3 (pv 3)) (re_int))) ro_none))))
def nm_run_code : List Str := ["book", "code", "state", "step"]
theorem sc_run_code : FnScope nm_run_code ["book", "code", "state"] (defScope (top 31)) := ⟨rfl, rfl, rfl, by decide +kernel, rfl, by decide +kernel, by decide +kernel⟩
theorem d_run_code {s_check_code s_step_state : DSp} (G : Gb K w mg) (C_check_code : Cal P w K mg base k "check_code" ["book", "code"] s_check_code) (C_step_state : Cal P w K mg base k "step_state" ["book", "step", "state"] s_step_state) (T : Top K mg "run_code" (top 31)) {sp : DSp} (len : ∀ ds M Q E, sp ds M Q E → ds.length = 3)
    (hq : ∀ ds M Q E, sp ds M Q E → b_run_code s_check_code s_step_state { nx := fun _ M' => Q .non M', rt := Q } (startD 4 ds) M) : Cal P w K mg base (k + 1) "run_code" ["book", "code", "state"] sp := by
  refine cal_mk (N := nm_run_code) T sc_run_code (fun _ _ _ _ _ _ us hl => match us, hl with | [_, _, _], _ => rfl) (fun f cdv A outer s H E hr => ?_) len hq
  have hu := hu66 hr
  have hu1 := hu_of hr
  exact rss_cons (rs_expr (re_cal C_check_code hr (ra_cons (re_var 0 (pv 0)) (ra_cons (re_var 1 (pv 1)) (ra_nil))))) (rss_cons (rs_for PassesOwn.never rfl (ri_val (re_var 1 (pv 1))) (ptg_name (pg_name (i := 3) sc_run_code.nd rfl (by first | exact .inl rfl | exact .inr rfl))) (rss_one (rs_set (i := 2) sc_run_code.nd rfl (by first | exact .inl rfl | exact .inr rfl) (re_cal C_step_state hr (ra_cons (re_var 0 (pv 0)) (ra_cons (re_var 3 (pv 3)) (ra_cons (re_var 2 (pv 2)) (ra_nil)))))))) (rss_one (rs_ret (re_var 2 (pv 2)))))
theorem d_run_codeX {s_check_codeX s_step_state : DSp} (G : Gb K w mg) (CX_check_code : CalX P w K mg base k "check_code" ["book", "code"] s_check_codeX) (C_step_state : Cal P w K mg base k "step_state" ["book", "step", "state"] s_step_state) (T : Top K mg "run_code" (top 31)) {sp : DSp} (len : ∀ ds M Q E, sp ds M Q E → ds.length = 3)
    (hq : ∀ ds M Q E, sp ds M Q E → b_run_code_x s_check_codeX s_step_state { nx := fun _ M' => Q .non M', rt := Q, xc := fun cls d _ M' => E cls d M' } (startD 4 ds) M) : CalX P w K mg base (k + 1) "run_code" ["book", "code", "state"] sp := by
  refine calx_mk (N := nm_run_code) T sc_run_code (fun _ _ _ _ _ _ us hl => match us, hl with | [_, _, _], _ => rfl) (fun f cdv A outer s H E hr => ?_) len hq
  have hu := hu66 hr
  have hu1 := hu_of hr
  exact rss_cons (rs_dropR (rx_call CX_check_code hr (ra_cons (re_var 0 (pv 0)) (ra_cons (re_var 1 (pv 1)) (ra_nil))))) (rss_cons (rs_for (passes_of rfl) rfl (ri_val (re_var 1 (pv 1))) (ptg_name (pg_name (i := 3) sc_run_code.nd rfl (by first | exact .inl rfl | exact .inr rfl))) (rss_one (rs_set (i := 2) sc_run_code.nd rfl (by first | exact .inl rfl | exact .inr rfl) (re_cal C_step_state hr (ra_cons (re_var 0 (pv 0)) (ra_cons (re_var 3 (pv 3)) (ra_cons (re_var 2 (pv 2)) (ra_nil)))))))) (rss_one (rs_ret (re_var 2 (pv 2)))))
def nm_code_price : List Str := ["book", "code", "total", "step"]
theorem sc_code_price : FnScope nm_code_price ["book", "code"] (defScope (top 32)) := ⟨rfl, rfl, rfl, by decide +kernel, rfl, by decide +kernel, by decide +kernel⟩
theorem d_code_price {c_Book : Addr} {s_Bookdeed s_check_code : DSp} (G : Gb K w mg) (Mt_Bookdeed : CalM P w K mg base k c_Book "deed" ["self", "name"] s_Bookdeed) (C_check_code : Cal P w K mg base k "check_code" ["book", "code"] s_check_code) (T : Top K mg "code_price" (top 32)) {sp : DSp} (len : ∀ ds M Q E, sp ds M Q E → ds.length = 2)
    (hq : ∀ ds M Q E, sp ds M Q E → b_code_price c_Book s_Bookdeed s_check_code { nx := fun _ M' => Q .non M', rt := Q } (startD 4 ds) M) : Cal P w K mg base (k + 1) "code_price" ["book", "code"] sp := by
  refine cal_mk (N := nm_code_price) T sc_code_price (fun _ _ _ _ _ _ us hl => match us, hl with | [_, _], _ => rfl) (fun f cdv A outer s H E hr => ?_) len hq
  have hu := hu66 hr
  have hu1 := hu_of hr
  exact rss_cons (rs_expr (re_cal C_check_code hr (ra_cons (re_var 0 (pv 0)) (ra_cons (re_var 1 (pv 1)) (ra_nil))))) (rss_cons (rs_set (i := 2) sc_code_price.nd rfl (by first | exact .inl rfl | exact .inr rfl) (re_int)) (rss_cons (rs_for PassesOwn.never rfl (ri_val (re_var 1 (pv 1))) (ptg_name (pg_name (i := 3) sc_code_price.nd rfl (by first | exact .inl rfl | exact .inr rfl))) (rss_one (rs_set (i := 2) sc_code_price.nd rfl (by first | exact .inl rfl | exact .inr rfl) (re_add (re_var 2 (pv 2)) (re_ix (ix_all hu1) rr_ix (re_meth Mt_Bookdeed hr (re_var 0 (pv 0)) (ra_cons (re_ix (ix_all hu1) rr_ix (re_var 3 (pv 3)) (re_int) (fun _ _ => rfl)) (ra_nil))) (re_int) (fun _ _ => rfl)))))) (rss_one (rs_ret (re_var 2 (pv 2))))))
theorem d_code_priceX {c_Book : Addr} {s_Bookdeed s_check_codeX : DSp} (G : Gb K w mg) (Mt_Bookdeed : CalM P w K mg base k c_Book "deed" ["self", "name"] s_Bookdeed) (CX_check_code : CalX P w K mg base k "check_code" ["book", "code"] s_check_codeX) (T : Top K mg "code_price" (top 32)) {sp : DSp} (len : ∀ ds M Q E, sp ds M Q E → ds.length = 2)
    (hq : ∀ ds M Q E, sp ds M Q E → b_code_price_x c_Book s_Bookdeed s_check_codeX { nx := fun _ M' => Q .non M', rt := Q, xc := fun cls d _ M' => E cls d M' } (startD 4 ds) M) : CalX P w K mg base (k + 1) "code_price" ["book", "code"] sp := by
  refine calx_mk (N := nm_code_price) T sc_code_price (fun _ _ _ _ _ _ us hl => match us, hl with | [_, _], _ => rfl) (fun f cdv A outer s H E hr => ?_) len hq
  have hu := hu66 hr
  have hu1 := hu_of hr
  exact rss_cons (rs_dropR (rx_call CX_check_code hr (ra_cons (re_var 0 (pv 0)) (ra_cons (re_var 1 (pv 1)) (ra_nil))))) (rss_cons (rs_set (i := 2) sc_code_price.nd rfl (by first | exact .inl rfl | exact .inr rfl) (re_int)) (rss_cons (rs_for (passes_of rfl) rfl (ri_val (re_var 1 (pv 1))) (ptg_name (pg_name (i := 3) sc_code_price.nd rfl (by first | exact .inl rfl | exact .inr rfl))) (rss_one (rs_set (i := 2) sc_code_price.nd rfl (by first | exact .inl rfl | exact .inr rfl) (re_add (re_var 2 (pv 2)) (re_ix (ix_all hu1) rr_ix (re_meth Mt_Bookdeed hr (re_var 0 (pv 0)) (ra_cons (re_ix (ix_all hu1) rr_ix (re_var 3 (pv 3)) (re_int) (fun _ _ => rfl)) (ra_nil))) (re_int) (fun _ _ => rfl)))))) (rss_one (rs_ret (re_var 2 (pv 2))))))
def nm_source_count : List Str := ["formula", "names"]
theorem sc_source_count : FnScope nm_source_count ["formula"] (defScope (top 39)) := ⟨rfl, rfl, rfl, by decide +kernel, rfl, by decide +kernel, by decide +kernel⟩
theorem d_source_count {s_formula_names : DSp} (G : Gb K w mg) (C_formula_names : Cal P w K mg base k "formula_names" ["formula"] s_formula_names) (T : Top K mg "source_count" (top 39)) {sp : DSp} (len : ∀ ds M Q E, sp ds M Q E → ds.length = 1)
    (hq : ∀ ds M Q E, sp ds M Q E → b_source_count s_formula_names { nx := fun _ M' => Q .non M', rt := Q } (startD 2 ds) M) : Cal P w K mg base (k + 1) "source_count" ["formula"] sp := by
  refine cal_mk (N := nm_source_count) T sc_source_count (fun _ _ _ _ _ _ us hl => match us, hl with | [_], _ => rfl) (fun f cdv A outer s H E hr => ?_) len hq
  have hu := hu66 hr
  have hu1 := hu_of hr
  exact rss_cons (rs_set (i := 1) sc_source_count.nd rfl (by first | exact .inl rfl | exact .inr rfl) (re_cal C_formula_names hr (ra_cons (re_var 0 (pv 0)) (ra_nil)))) (rss_one (rs_ret (re_add (re_callTy rl_int1 call_int1 rfl G.int (by decide +kernel) (ra_cons (re_cmp (op_inA hu1) (rr_in (neg := false)) (re_str) (re_var 1 (pv 1)) rfl) (ra_nil))) (re_callTy rl_int1 call_int1 rfl G.int (by decide +kernel) (ra_cons (re_cmp (op_inA hu1) (rr_in (neg := false)) (re_str) (re_var 1 (pv 1)) rfl) (ra_nil))))))
def nm_takes_word : List Str := ["formula"]
theorem sc_takes_word : FnScope nm_takes_word ["formula"] (defScope (top 40)) := ⟨rfl, rfl, rfl, by decide +kernel, rfl, by decide +kernel, by decide +kernel⟩
theorem d_takes_word {s_formula_names : DSp} (G : Gb K w mg) (C_formula_names : Cal P w K mg base k "formula_names" ["formula"] s_formula_names) (T : Top K mg "takes_word" (top 40)) {sp : DSp} (len : ∀ ds M Q E, sp ds M Q E → ds.length = 1)
    (hq : ∀ ds M Q E, sp ds M Q E → b_takes_word s_formula_names { nx := fun _ M' => Q .non M', rt := Q } (startD 1 ds) M) : Cal P w K mg base (k + 1) "takes_word" ["formula"] sp := by
  refine cal_mk (N := nm_takes_word) T sc_takes_word (fun _ _ _ _ _ _ us hl => match us, hl with | [_], _ => rfl) (fun f cdv A outer s H E hr => ?_) len hq
  have hu := hu66 hr
  have hu1 := hu_of hr
  exact rss_one (rs_ret (re_cmp (op_inA hu1) (rr_in (neg := false)) (re_str) (re_cal C_formula_names hr (ra_cons (re_var 0 (pv 0)) (ra_nil))) rfl))
def nm_source_rows : List Str := ["registers", "many", "rows", "_", "row", "register"]
theorem sc_source_rows : FnScope nm_source_rows ["registers", "many"] (defScope (top 41)) := ⟨rfl, rfl, rfl, by decide +kernel, rfl, by decide +kernel, by decide +kernel⟩
theorem d_source_rows (G : Gb K w mg) (T : Top K mg "source_rows" (top 41)) {sp : DSp} (len : ∀ ds M Q E, sp ds M Q E → ds.length = 2)
    (hq : ∀ ds M Q E, sp ds M Q E → b_source_rows { nx := fun _ M' => Q .non M', rt := Q } (startD 6 ds) M) : Cal P w K mg base (k + 1) "source_rows" ["registers", "many"] sp := by
  refine cal_mk (N := nm_source_rows) T sc_source_rows (fun _ _ _ _ _ _ us hl => match us, hl with | [_, _], _ => rfl) (fun f cdv A outer s H E hr => ?_) len hq
  have hu := hu66 hr
  have hu1 := hu_of hr
  exact rss_cons (rs_set (i := 2) sc_source_rows.nd rfl (by first | exact .inl rfl | exact .inr rfl) (re_lst (ra_cons (re_tup (ra_nil)) (ra_nil)))) (rss_cons (rs_for PassesOwn.never rfl (ri_rng1 rfl G.range (ra_cons (re_var 1 (pv 1)) (ra_nil))) (ptg_name (pg_name (i := 3) sc_source_rows.nd rfl (by first | exact .inl rfl | exact .inr rfl))) (rss_one (rs_setLc2 (i := 2) (own := [("row", 4), ("register", 5)]) rfl sc_source_rows.nd rfl rfl (sw_true rfl rfl rfl (by decide +kernel)) (ri_val (re_var 2 (pv 2))) (blkOk_by (own := [("row", 4), ("register", 5)]) (N := nm_source_rows) (sc := defScope (top 41)) (by decide +kernel)) (by decide) (by decide) (by decide) (fun _ _ _ _ _ => (ptg_name (pg_name (i := 4) sc_source_rows.nd rfl (by first | exact .inl rfl | exact .inr rfl)))) (fun _ _ _ _ _ => rts_nil) (fun _ _ _ _ _ => ri_rng1 rfl G.range (ra_cons (re_var 0 (pv 0)) (ra_nil))) (fun _ _ _ _ _ => (ptg_name (pg_name (i := 5) sc_source_rows.nd rfl (by first | exact .inl rfl | exact .inr rfl)))) (fun _ _ _ _ _ => rts_nil) (fun _ _ _ _ _ => re_add (re_var 4 (pv 4)) (re_tup (ra_cons (re_var 5 (pv 5)) (ra_nil))))))) (rss_one (rs_ret (re_var 2 (pv 2)))))
def nm_step_count : List Str := ["book", "formula", "many", "_"]
theorem sc_step_count : FnScope nm_step_count ["book", "formula"] (defScope (top 42)) := ⟨rfl, rfl, rfl, by decide +kernel, rfl, by decide +kernel, by decide +kernel⟩
theorem d_step_count {cl : CF} {s_source_count s_takes_word : DSp} (G : Gb K w mg) (hcl : CfOk K cl) (C_source_count : Cal P w K mg base k "source_count" ["formula"] s_source_count) (C_takes_word : Cal P w K mg base k "takes_word" ["formula"] s_takes_word) (T : Top K mg "step_count" (top 42)) {sp : DSp} (len : ∀ ds M Q E, sp ds M Q E → ds.length = 2)
    (hq : ∀ ds M Q E, sp ds M Q E → b_step_count cl s_source_count s_takes_word { nx := fun _ M' => Q .non M', rt := Q } (startD 4 ds) M) : Cal P w K mg base (k + 1) "step_count" ["book", "formula"] sp := by
  refine cal_mk (N := nm_step_count) T sc_step_count (fun _ _ _ _ _ _ us hl => match us, hl with | [_, _], _ => rfl) (fun f cdv A outer s H E hr => ?_) len hq
  have hu := hu66 hr
  have hu1 := hu_of hr
  exact rss_cons (rs_set (i := 2) sc_step_count.nd rfl (by first | exact .inl rfl | exact .inr rfl) (re_fld hcl (re_var 0 (pv 0)))) (rss_cons (rs_for PassesOwn.never rfl (ri_rng1 rfl G.range (ra_cons (re_cal C_source_count hr (ra_cons (re_var 1 (pv 1)) (ra_nil))) (ra_nil))) (ptg_name (pg_name (i := 3) sc_step_count.nd rfl (by first | exact .inl rfl | exact .inr rfl))) (rss_one (rs_set (i := 2) sc_step_count.nd rfl (by first | exact .inl rfl | exact .inr rfl) (re_mul (re_var 2 (pv 2)) (re_fld hcl (re_var 0 (pv 0))))))) (rss_cons (rs_if (rt_val (re_cal C_takes_word hr (ra_cons (re_var 1 (pv 1)) (ra_nil)))) (rss_one (rs_set (i := 2) sc_step_count.nd rfl (by first | exact .inl rfl | exact .inr rfl) (re_mul (re_var 2 (pv 2)) (re_callB rl_len call_lenA rfl G.len (by decide +kernel) (ra_cons (re_fld hcl (re_var 0 (pv 0))) (ra_nil)))))) (rss_nil)) (rss_one (rs_ret (re_var 2 (pv 2))))))
def nm_bad_deed : List Str := ["book", "at", "name", "price", "formula", "row", "names"]
theorem sc_bad_deed : FnScope nm_bad_deed ["book", "at"] (defScope (top 43)) := ⟨rfl, rfl, rfl, by decide +kernel, rfl, by decide +kernel, by decide +kernel⟩
theorem d_bad_deed {cl : CF} {s_is_name s_is_formula s_formula_names : DSp} (G : Gb K w mg) (hcl : CfOk K cl) (C_is_name : Cal P w K mg base k "is_name" ["name"] s_is_name) (C_is_formula : Cal P w K mg base k "is_formula" ["formula", "width", "names", "most"] s_is_formula) (C_formula_names : Cal P w K mg base k "formula_names" ["formula"] s_formula_names) (T : Top K mg "bad_deed" (top 43)) {sp : DSp} (len : ∀ ds M Q E, sp ds M Q E → ds.length = 2)
    (hq : ∀ ds M Q E, sp ds M Q E → b_bad_deed cl s_is_name s_is_formula s_formula_names { nx := fun _ M' => Q .non M', rt := Q } (startD 7 ds) M) : Cal P w K mg base (k + 1) "bad_deed" ["book", "at"] sp := by
  refine cal_mk (N := nm_bad_deed) T sc_bad_deed (fun _ _ _ _ _ _ us hl => match us, hl with | [_, _], _ => rfl) (fun f cdv A outer s H E hr => ?_) len hq
  have hu := hu66 hr
  have hu1 := hu_of hr
  exact rss_cons (rs_asg (re_ix (ix_all hu1) rr_ix (re_fld hcl (re_var 0 (pv 0))) (re_var 1 (pv 1)) (fun _ _ => rfl)) (ptg_tup (is := [2, 3, 4]) rfl (pgs_cons (pg_name (i := 2) sc_bad_deed.nd rfl (by first | exact .inl rfl | exact .inr rfl)) (pgs_cons (pg_name (i := 3) sc_bad_deed.nd rfl (by first | exact .inl rfl | exact .inr rfl)) (pgs_cons (pg_name (i := 4) sc_bad_deed.nd rfl (by first | exact .inl rfl | exact .inr rfl)) (pgs_nil)))) rfl)) (rss_cons (rs_if (PW.pt (rw_or (rt_cmp (op_ge) (rr_ge) (re_var 1 (pv 1)) (re_gint G.c_MOST_DEEDS) (nomark _)) (rw_or (rt_not (rt_val (re_cal C_is_name hr (ra_cons (re_var 2 (pv 2)) (ra_nil))))) (rw_or1 (rt_cmp (op_inA hu1) (rr_in (neg := false)) (re_var 2 (pv 2)) (re_lc (own := [("row", 5)]) rfl sc_bad_deed.nd (ri_val (re_slice (re_fld hcl (re_var 0 (pv 0))) ro_none (ro_some (re_var 1 (pv 1))))) (blkOk_by (own := [("row", 5)]) (N := nm_bad_deed) (sc := defScope (top 43)) (by decide +kernel)) (by decide) (fun _ _ _ _ _ => (ptg_name (pg_name (i := 5) sc_bad_deed.nd rfl (by first | exact .inl rfl | exact .inr rfl)))) (fun _ _ _ _ _ => rts_nil) (fun _ _ _ _ _ => re_ix (ix_all hu1) rr_ix (re_var 5 (pv 5)) (re_int) (fun _ _ => rfl))) rfl))))) (rss_one (rs_ret (re_bl))) (rss_nil)) (rss_cons (rs_if (rt_not (rt_chain (op_le) (rr_le) (op_le) (rr_le) (re_int) (re_var 3 (pv 3)) (re_gint G.c_MOST_PRICE))) (rss_one (rs_ret (re_bl))) (rss_nil)) (rss_cons (rs_if (rt_not (rt_val (re_cal C_is_formula hr (ra_cons (re_var 4 (pv 4)) (ra_cons (re_fld hcl (re_var 0 (pv 0))) (ra_cons (re_tup (ra_cons (re_str) (ra_cons (re_str) (ra_cons (re_str) (ra_nil))))) (ra_cons (re_gint G.c_DEED_SIZE) (ra_nil)))))))) (rss_one (rs_ret (re_bl))) (rss_nil)) (rss_cons (rs_set (i := 6) sc_bad_deed.nd rfl (by first | exact .inl rfl | exact .inr rfl) (re_cal C_formula_names hr (ra_cons (re_var 4 (pv 4)) (ra_nil)))) (rss_one (rs_ret (re_and (re_cmp (op_inA hu1) (rr_in (neg := false)) (re_str) (re_var 6 (pv 6)) rfl) (re_one (re_cmp (op_notInA hu1) (rr_in (neg := true)) (re_str) (re_var 6 (pv 6)) rfl)))))))))
def nm_bad_words : List Str := ["book", "at"]
theorem sc_bad_words : FnScope nm_bad_words ["book"] (defScope (top 44)) := ⟨rfl, rfl, rfl, by decide +kernel, rfl, by decide +kernel, by decide +kernel⟩
theorem d_bad_words {cl : CF} {s_word_limit : DSp} (G : Gb K w mg) (hcl : CfOk K cl) (C_word_limit : Cal P w K mg base k "word_limit" ["width"] s_word_limit) (T : Top K mg "bad_words" (top 44)) {sp : DSp} (len : ∀ ds M Q E, sp ds M Q E → ds.length = 1)
    (hq : ∀ ds M Q E, sp ds M Q E → b_bad_words cl s_word_limit { nx := fun _ M' => Q .non M', rt := Q } (startD 2 ds) M) : Cal P w K mg base (k + 1) "bad_words" ["book"] sp := by
  refine cal_mk (N := nm_bad_words) T sc_bad_words (fun _ _ _ _ _ _ us hl => match us, hl with | [_], _ => rfl) (fun f cdv A outer s H E hr => ?_) len hq
  have hu := hu66 hr
  have hu1 := hu_of hr
  exact rss_cons (rs_for PassesOwn.never rfl (ri_rng1 rfl G.range (ra_cons (re_callB rl_len call_lenA rfl G.len (by decide +kernel) (ra_cons (re_fld hcl (re_var 0 (pv 0))) (ra_nil))) (ra_nil))) (ptg_name (pg_name (i := 1) sc_bad_words.nd rfl (by first | exact .inl rfl | exact .inr rfl))) (rss_cons (rs_if (rt_not (rt_chain (op_le) (rr_le) (op_lt) (rr_lt) (re_int) (re_ix (ix_all hu1) rr_ix (re_fld hcl (re_var 0 (pv 0))) (re_var 1 (pv 1)) (fun _ _ => rfl)) (re_cal C_word_limit hr (ra_cons (re_fld hcl (re_var 0 (pv 0))) (ra_nil))))) (rss_one (rs_ret (re_bl))) (rss_nil)) (rss_one (rs_if (PW.pt (rw_and (rt_cmp (op_gt) (rr_gt) (re_var 1 (pv 1)) (re_int) (nomark _)) (rw_and1 (rt_cmp (op_le) (rr_le) (re_ix (ix_all hu1) rr_ix (re_fld hcl (re_var 0 (pv 0))) (re_var 1 (pv 1)) (fun _ _ => rfl)) (re_ix (ix_all hu1) rr_ix (re_fld hcl (re_var 0 (pv 0))) (re_sub (re_var 1 (pv 1)) (re_int)) (fun _ _ => rfl)) (nomark _))))) (rss_one (rs_ret (re_bl))) (rss_nil))))) (rss_one (rs_ret (re_bl)))
def nm_first_bad_line : List Str := ["book", "at"]
theorem sc_first_bad_line : FnScope nm_first_bad_line ["book"] (defScope (top 45)) := ⟨rfl, rfl, rfl, by decide +kernel, rfl, by decide +kernel, by decide +kernel⟩
theorem d_first_bad_line {cl : CF} {s_bad_words s_bad_deed : DSp} (G : Gb K w mg) (hcl : CfOk K cl) (C_bad_words : Cal P w K mg base k "bad_words" ["book"] s_bad_words) (C_bad_deed : Cal P w K mg base k "bad_deed" ["book", "at"] s_bad_deed) (T : Top K mg "first_bad_line" (top 45)) {sp : DSp} (len : ∀ ds M Q E, sp ds M Q E → ds.length = 1)
    (hq : ∀ ds M Q E, sp ds M Q E → b_first_bad_line_v2 cl s_bad_words s_bad_deed { nx := fun _ M' => Q .non M', rt := Q } (startD 2 ds) M) : Cal P w K mg base (k + 1) "first_bad_line" ["book"] sp := by
  refine cal_mk (N := nm_first_bad_line) T sc_first_bad_line (fun _ _ _ _ _ _ us hl => match us, hl with | [_], _ => rfl) (fun f cdv A outer s H E hr => ?_) len hq
  have hu := hu66 hr
  have hu1 := hu_of hr
  exact rss_cons (rs_if (rt_not (rt_chain (op_le) (rr_le) (op_le) (rr_le) (re_int) (re_fld hcl (re_var 0 (pv 0))) (re_int))) (rss_one (rs_ret (re_int))) (rss_nil)) (rss_cons (rs_if (PW.pt (rw_or (rt_not (rt_chain (op_le) (rr_le) (op_le) (rr_le) (re_int) (re_fld hcl (re_var 0 (pv 0))) (re_int))) (rw_or1 (rt_cmp (op_gt) (rr_gt) (re_mul (re_fld hcl (re_var 0 (pv 0))) (re_fld hcl (re_var 0 (pv 0)))) (re_gint G.c_MOST_STATE_BITS) (nomark _))))) (rss_one (rs_ret (re_int))) (rss_nil)) (rss_cons (rs_if (rt_val (re_cal C_bad_words hr (ra_cons (re_var 0 (pv 0)) (ra_nil)))) (rss_one (rs_ret (re_int))) (rss_nil)) (rss_cons (rs_for PassesOwn.never rfl (ri_rng1 rfl G.range (ra_cons (re_callB rl_len call_lenA rfl G.len (by decide +kernel) (ra_cons (re_fld hcl (re_var 0 (pv 0))) (ra_nil))) (ra_nil))) (ptg_name (pg_name (i := 1) sc_first_bad_line.nd rfl (by first | exact .inl rfl | exact .inr rfl))) (rss_one (rs_if (rt_val (re_cal C_bad_deed hr (ra_cons (re_var 0 (pv 0)) (ra_cons (re_var 1 (pv 1)) (ra_nil))))) (rss_one (rs_ret (re_add (re_int) (re_var 1 (pv 1))))) (rss_nil)))) (rss_cons (rs_if (rt_cmp (op_eqA hu) (rr_eq) (re_callB rl_len call_lenA rfl G.len (by decide +kernel) (ra_cons (re_fld hcl (re_var 0 (pv 0))) (ra_nil))) (re_int) (nomark _)) (rss_one (rs_ret (re_int))) (rss_nil)) (rss_one (rs_ret (re_int)))))))
def nm__law_mix : List Str := ["number", "k"]
theorem sc__law_mix : FnScope nm__law_mix ["number", "k"] (defScope (top 47)) := ⟨rfl, rfl, rfl, by decide +kernel, rfl, by decide +kernel, by decide +kernel⟩
theorem d__law_mix (G : Gb K w mg) (T : Top K mg "_law_mix" (top 47)) {sp : DSp} (len : ∀ ds M Q E, sp ds M Q E → ds.length = 2)
    (hq : ∀ ds M Q E, sp ds M Q E → b__law_mix { nx := fun _ M' => Q .non M', rt := Q } (startD 2 ds) M) : Cal P w K mg base (k + 1) "_law_mix" ["number", "k"] sp := by
  refine cal_mk (N := nm__law_mix) T sc__law_mix (fun _ _ _ _ _ _ us hl => match us, hl with | [_, _], _ => rfl) (fun f cdv A outer s H E hr => ?_) len hq
  have hu := hu66 hr
  have hu1 := hu_of hr
  exact rss_cons (rs_set (i := 0) sc__law_mix.nd rfl (by first | exact .inl rfl | exact .inr rfl) (re_mod (re_add (re_add (re_mul (re_callTy rl_int1 call_int1 rfl G.int (by decide +kernel) (ra_cons (re_var 0 (pv 0)) (ra_nil))) (re_int)) (re_mul (re_var 1 (pv 1)) (re_int))) (re_int)) (re_int))) (rss_one (rs_ret (re_mod (re_add (re_add (re_mul (re_var 0 (pv 0)) (re_int)) (re_mul (re_var 1 (pv 1)) (re_int))) (re_int)) (re_int))))
def nm__law_stream : List Str := ["script", "many", "numbers", "last", "k", "cell", "j"]
theorem sc__law_stream : FnScope nm__law_stream ["script", "many"] (defScope (top 48)) := ⟨rfl, rfl, rfl, by decide +kernel, rfl, by decide +kernel, by decide +kernel⟩
theorem d__law_stream {s__law_mix : DSp} (G : Gb K w mg) (C__law_mix : Cal P w K mg base k "_law_mix" ["number", "k"] s__law_mix) (T : Top K mg "_law_stream" (top 48)) {sp : DSp} (len : ∀ ds M Q E, sp ds M Q E → ds.length = 2)
    (hq : ∀ ds M Q E, sp ds M Q E → b__law_stream s__law_mix { nx := fun _ M' => Q .non M', rt := Q } (startD 7 ds) M) : Cal P w K mg base (k + 1) "_law_stream" ["script", "many"] sp := by
  refine cal_mk (N := nm__law_stream) T sc__law_stream (fun _ _ _ _ _ _ us hl => match us, hl with | [_, _], _ => rfl) (fun f cdv A outer s H E hr => ?_) len hq
  have hu := hu66 hr
  have hu1 := hu_of hr
  exact rss_cons (rs_set (i := 2) sc__law_stream.nd rfl (by first | exact .inl rfl | exact .inr rfl) (re_lst (ra_nil))) (rss_cons (rs_set (i := 3) sc__law_stream.nd rfl (by first | exact .inl rfl | exact .inr rfl) (re_int)) (rss_cons (rs_for PassesOwn.never rfl (ri_rng1 rfl G.range (ra_cons (re_callB rl_min2 (call_min2 rfl) rfl G.min (by decide +kernel) (ra_cons (re_int) (ra_cons (re_callB rl_len call_lenA rfl G.len (by decide +kernel) (ra_cons (re_var 0 (pv 0)) (ra_nil))) (ra_nil)))) (ra_nil))) (ptg_name (pg_name (i := 4) sc__law_stream.nd rfl (by first | exact .inl rfl | exact .inr rfl))) (rss_cons (rs_set (i := 5) sc__law_stream.nd rfl (by first | exact .inl rfl | exact .inr rfl) (re_callB rl_abs call_abs rfl G.abs (by decide +kernel) (ra_cons (re_callTy rl_int1 call_int1 rfl G.int (by decide +kernel) (ra_cons (re_ix (ix_all hu1) rr_ix (re_var 0 (pv 0)) (re_var 4 (pv 4)) (fun _ _ => rfl)) (ra_nil))) (ra_nil)))) (rss_cons (rs_set (i := 3) sc__law_stream.nd rfl (by first | exact .inl rfl | exact .inr rfl) (re_cal C__law_mix hr (ra_cons (re_add (re_var 3 (pv 3)) (re_mod (re_var 5 (pv 5)) (re_int))) (ra_cons (re_var 4 (pv 4)) (ra_nil))))) (rss_one (rs_if (rt_cmp (op_ge) (rr_ge) (re_var 5 (pv 5)) (re_pow (re_int) (re_int)) (nomark _)) (rss_one (rs_for PassesOwn.never rfl (ri_rng1 rfl G.range (ra_cons (re_int) (ra_nil))) (ptg_name (pg_name (i := 6) sc__law_stream.nd rfl (by first | exact .inl rfl | exact .inr rfl))) (rss_one (rs_if (rt_cmp (op_gt) (rr_gt) (re_var 5 (pv 5)) (re_int) (nomark _)) (rss_cons (rs_expr (re_append (re_var 2 (pv 2)) (re_mod (re_var 5 (pv 5)) (re_int)))) (rss_one (rs_set (i := 5) sc__law_stream.nd rfl (by first | exact .inl rfl | exact .inr rfl) (re_fdiv (re_var 5 (pv 5)) (re_int))))) (rss_nil))))) (rss_one (rs_expr (re_append (re_var 2 (pv 2)) (re_mod (re_cal C__law_mix hr (ra_cons (re_var 5 (pv 5)) (ra_cons (re_var 4 (pv 4)) (ra_nil)))) (re_int)))))))))) (rss_cons (rs_for PassesOwn.never rfl (ri_rng1 rfl G.range (ra_cons (re_var 1 (pv 1)) (ra_nil))) (ptg_name (pg_name (i := 4) sc__law_stream.nd rfl (by first | exact .inl rfl | exact .inr rfl))) (rss_one (rs_if (rt_cmp (op_lt) (rr_lt) (re_callB rl_len call_lenA rfl G.len (by decide +kernel) (ra_cons (re_var 2 (pv 2)) (ra_nil))) (re_var 1 (pv 1)) (nomark _)) (rss_cons (rs_set (i := 3) sc__law_stream.nd rfl (by first | exact .inl rfl | exact .inr rfl) (re_cal C__law_mix hr (ra_cons (re_var 3 (pv 3)) (ra_cons (re_callB rl_len call_lenA rfl G.len (by decide +kernel) (ra_cons (re_var 2 (pv 2)) (ra_nil))) (ra_nil))))) (rss_one (rs_expr (re_append (re_var 2 (pv 2)) (re_mod (re_var 3 (pv 3)) (re_int)))))) (rss_nil)))) (rss_one (rs_ret (re_var 2 (pv 2)))))))
def nm__law_take : List Str := ["numbers", "cursor", "many", "number"]
theorem sc__law_take : FnScope nm__law_take ["numbers", "cursor", "many"] (defScope (top 49)) := ⟨rfl, rfl, rfl, by decide +kernel, rfl, by decide +kernel, by decide +kernel⟩
theorem d__law_take (G : Gb K w mg) (T : Top K mg "_law_take" (top 49)) {sp : DSp} (len : ∀ ds M Q E, sp ds M Q E → ds.length = 3)
    (hq : ∀ ds M Q E, sp ds M Q E → b__law_take { nx := fun _ M' => Q .non M', rt := Q } (startD 4 ds) M) : Cal P w K mg base (k + 1) "_law_take" ["numbers", "cursor", "many"] sp := by
  refine cal_mk (N := nm__law_take) T sc__law_take (fun _ _ _ _ _ _ us hl => match us, hl with | [_, _, _], _ => rfl) (fun f cdv A outer s H E hr => ?_) len hq
  have hu := hu66 hr
  have hu1 := hu_of hr
  exact rss_cons (rs_set (i := 3) sc__law_take.nd rfl (by first | exact .inl rfl | exact .inr rfl) (re_ix (ix_all hu1) rr_ix (re_var 0 (pv 0)) (re_mod (re_ix (ix_all hu1) rr_ix (re_var 1 (pv 1)) (re_int) (fun _ _ => rfl)) (re_callB rl_len call_lenA rfl G.len (by decide +kernel) (ra_cons (re_var 0 (pv 0)) (ra_nil)))) (fun _ _ => rfl))) (rss_cons (rs_setIx hu1 (re_var 1 (pv 1)) (re_int) (re_add (re_ix (ix_all hu1) rr_ix (re_var 1 (pv 1)) (re_int) (fun _ _ => rfl)) (re_int))) (rss_one (rs_ret (re_mod (re_callTy rl_int1 call_int1 rfl G.int (by decide +kernel) (ra_cons (re_var 3 (pv 3)) (ra_nil))) (re_var 2 (pv 2))))))
def nm__law_arity : List Str := ["word"]
theorem sc__law_arity : FnScope nm__law_arity ["word"] (defScope (top 50)) := ⟨rfl, rfl, rfl, by decide +kernel, rfl, by decide +kernel, by decide +kernel⟩
theorem d__law_arity (G : Gb K w mg) (T : Top K mg "_law_arity" (top 50)) {sp : DSp} (len : ∀ ds M Q E, sp ds M Q E → ds.length = 1)
    (hq : ∀ ds M Q E, sp ds M Q E → b__law_arity { nx := fun _ M' => Q .non M', rt := Q } (startD 1 ds) M) : Cal P w K mg base (k + 1) "_law_arity" ["word"] sp := by
  refine cal_mk (N := nm__law_arity) T sc__law_arity (fun _ _ _ _ _ _ us hl => match us, hl with | [_], _ => rfl) (fun f cdv A outer s H E hr => ?_) len hq
  have hu := hu66 hr
  have hu1 := hu_of hr
  exact rss_cons (rs_if (rt_cmp (op_inA hu1) (rr_in (neg := false)) (re_var 0 (pv 0)) (re_lst (ra_cons (re_str) (ra_cons (re_str) (ra_nil)))) rfl) (rss_one (rs_ret (re_int))) (rss_nil)) (rss_cons (rs_if (rt_cmp (op_eqA hu) (rr_eq) (re_var 0 (pv 0)) (re_str) (nomark _)) (rss_one (rs_ret (re_int))) (rss_nil)) (rss_one (rs_ret (re_int))))
def nm__law_formula : List Str := ["numbers", "cursor", "names", "width", "depth", "words", "word", "parts", "k"]
theorem sc__law_formula : FnScope nm__law_formula ["numbers", "cursor", "names", "width", "depth"] (defScope (top 51)) := ⟨rfl, rfl, rfl, by decide +kernel, rfl, by decide +kernel, by decide +kernel⟩
theorem d__law_formula {s__law_take s__law_arity s__law_formula : DSp} (G : Gb K w mg) (C__law_take : Cal P w K mg base k "_law_take" ["numbers", "cursor", "many"] s__law_take) (C__law_arity : Cal P w K mg base k "_law_arity" ["word"] s__law_arity) (C__law_formula : Cal P w K mg base k "_law_formula" ["numbers", "cursor", "names", "width", "depth"] s__law_formula) (T : Top K mg "_law_formula" (top 51)) {sp : DSp} (len : ∀ ds M Q E, sp ds M Q E → ds.length = 5)
    (hq : ∀ ds M Q E, sp ds M Q E → b__law_formula s__law_take s__law_arity s__law_formula { nx := fun _ M' => Q .non M', rt := Q } (startD 9 ds) M) : Cal P w K mg base (k + 1) "_law_formula" ["numbers", "cursor", "names", "width", "depth"] sp := by
  refine cal_mk (N := nm__law_formula) T sc__law_formula (fun _ _ _ _ _ _ us hl => match us, hl with | [_, _, _, _, _], _ => rfl) (fun f cdv A outer s H E hr => ?_) len hq
  have hu := hu66 hr
  have hu1 := hu_of hr
  exact rss_cons (rs_set (i := 5) sc__law_formula.nd rfl (by first | exact .inl rfl | exact .inr rfl) (re_lst (ra_cons (re_str) (ra_cons (re_str) (ra_cons (re_str) (ra_cons (re_str) (ra_cons (re_str) (ra_cons (re_str) (ra_cons (re_str) (ra_cons (re_str) (ra_cons (re_str) (ra_cons (re_str) (ra_cons (re_str) (ra_cons (re_str) (ra_cons (re_str) (ra_cons (re_str) (ra_nil))))))))))))))))) (rss_cons (rs_if (PW.pt (rw_or (rt_cmp (op_eqA hu) (rr_eq) (re_var 4 (pv 4)) (re_int) (nomark _)) (rw_or1 (rt_cmp (op_eqA hu) (rr_eq) (re_cal C__law_take hr (ra_cons (re_var 0 (pv 0)) (ra_cons (re_var 1 (pv 1)) (ra_cons (re_int) (ra_nil))))) (re_int) (nomark _))))) (rss_cons (rs_if (PW.pt (rw_and (rt_cmp (op_gt) (rr_gt) (re_callB rl_len call_lenA rfl G.len (by decide +kernel) (ra_cons (re_var 2 (pv 2)) (ra_nil))) (re_int) (nomark _)) (rw_and1 (rt_cmp (op_gt) (rr_gt) (re_cal C__law_take hr (ra_cons (re_var 0 (pv 0)) (ra_cons (re_var 1 (pv 1)) (ra_cons (re_int) (ra_nil))))) (re_int) (nomark _))))) (rss_one (rs_ret (re_ix (ix_all hu1) rr_ix (re_var 2 (pv 2)) (re_cal C__law_take hr (ra_cons (re_var 0 (pv 0)) (ra_cons (re_var 1 (pv 1)) (ra_cons (re_callB rl_len call_lenA rfl G.len (by decide +kernel) (ra_cons (re_var 2 (pv 2)) (ra_nil))) (ra_nil))))) (fun _ _ => rfl)))) (rss_nil)) (rss_one (rs_ret (re_cal C__law_take hr (ra_cons (re_var 0 (pv 0)) (ra_cons (re_var 1 (pv 1)) (ra_cons (re_shl (re_int) (re_var 3 (pv 3))) (ra_nil)))))))) (rss_nil)) (rss_cons (rs_set (i := 6) sc__law_formula.nd rfl (by first | exact .inl rfl | exact .inr rfl) (re_ix (ix_all hu1) rr_ix (re_var 5 (pv 5)) (re_cal C__law_take hr (ra_cons (re_var 0 (pv 0)) (ra_cons (re_var 1 (pv 1)) (ra_cons (re_int) (ra_nil))))) (fun _ _ => rfl))) (rss_cons (rs_set (i := 7) sc__law_formula.nd rfl (by first | exact .inl rfl | exact .inr rfl) (re_lst (ra_cons (re_var 6 (pv 6)) (ra_nil)))) (rss_cons (rs_for PassesOwn.never rfl (ri_rng1 rfl G.range (ra_cons (re_cal C__law_arity hr (ra_cons (re_var 6 (pv 6)) (ra_nil))) (ra_nil))) (ptg_name (pg_name (i := 8) sc__law_formula.nd rfl (by first | exact .inl rfl | exact .inr rfl))) (rss_one (rs_expr (re_append (re_var 7 (pv 7)) (re_cal C__law_formula hr (ra_cons (re_var 0 (pv 0)) (ra_cons (re_var 1 (pv 1)) (ra_cons (re_var 2 (pv 2)) (ra_cons (re_var 3 (pv 3)) (ra_cons (re_sub (re_var 4 (pv 4)) (re_int)) (ra_nil))))))))))) (rss_one (rs_ret (re_callTy rl_tuple call_tuple_of rfl G.tuple (by decide +kernel) (ra_cons (re_var 7 (pv 7)) (ra_nil)))))))))
def nm__law_two : List Str := ["word", "width", "one", "other", "limit"]
theorem sc__law_two : FnScope nm__law_two ["word", "width", "one", "other"] (defScope (top 52)) := ⟨rfl, rfl, rfl, by decide +kernel, rfl, by decide +kernel, by decide +kernel⟩
theorem d__law_two (G : Gb K w mg) (T : Top K mg "_law_two" (top 52)) {sp : DSp} (len : ∀ ds M Q E, sp ds M Q E → ds.length = 4)
    (hq : ∀ ds M Q E, sp ds M Q E → b__law_two { nx := fun _ M' => Q .non M', rt := Q } (startD 5 ds) M) : Cal P w K mg base (k + 1) "_law_two" ["word", "width", "one", "other"] sp := by
  refine cal_mk (N := nm__law_two) T sc__law_two (fun _ _ _ _ _ _ us hl => match us, hl with | [_, _, _, _], _ => rfl) (fun f cdv A outer s H E hr => ?_) len hq
  have hu := hu66 hr
  have hu1 := hu_of hr
  exact rss_cons (rs_set (i := 4) sc__law_two.nd rfl (by first | exact .inl rfl | exact .inr rfl) (re_shl (re_int) (re_var 1 (pv 1)))) (rss_cons (rs_if (rt_cmp (op_eqA hu) (rr_eq) (re_var 0 (pv 0)) (re_str) (nomark _)) (rss_one (rs_ret (re_band (re_var 2 (pv 2)) (re_var 3 (pv 3))))) (rss_nil)) (rss_cons (rs_if (rt_cmp (op_eqA hu) (rr_eq) (re_var 0 (pv 0)) (re_str) (nomark _)) (rss_one (rs_ret (re_bor (re_var 2 (pv 2)) (re_var 3 (pv 3))))) (rss_nil)) (rss_cons (rs_if (rt_cmp (op_eqA hu) (rr_eq) (re_var 0 (pv 0)) (re_str) (nomark _)) (rss_one (rs_ret (re_bxor (re_var 2 (pv 2)) (re_var 3 (pv 3))))) (rss_nil)) (rss_cons (rs_if (rt_cmp (op_eqA hu) (rr_eq) (re_var 0 (pv 0)) (re_str) (nomark _)) (rss_one (rs_ret (re_mod (re_callTy rl_int1 call_int1 rfl G.int (by decide +kernel) (ra_cons (re_add (re_var 2 (pv 2)) (re_var 3 (pv 3))) (ra_nil))) (re_var 4 (pv 4))))) (rss_nil)) (rss_cons (rs_if (rt_cmp (op_eqA hu) (rr_eq) (re_var 0 (pv 0)) (re_str) (nomark _)) (rss_one (rs_ret (re_mod (re_callTy rl_int1 call_int1 rfl G.int (by decide +kernel) (ra_cons (re_sub (re_var 2 (pv 2)) (re_var 3 (pv 3))) (ra_nil))) (re_var 4 (pv 4))))) (rss_nil)) (rss_cons (rs_if (rt_cmp (op_eqA hu) (rr_eq) (re_var 0 (pv 0)) (re_str) (nomark _)) (rss_one (rs_ret (re_mod (re_callTy rl_int1 call_int1 rfl G.int (by decide +kernel) (ra_cons (re_mul (re_var 2 (pv 2)) (re_var 3 (pv 3))) (ra_nil))) (re_var 4 (pv 4))))) (rss_nil)) (rss_cons (rs_if (rt_cmp (op_eqA hu) (rr_eq) (re_var 0 (pv 0)) (re_str) (nomark _)) (rss_one (rs_ret (re_mod (re_callTy rl_int1 call_int1 rfl G.int (by decide +kernel) (ra_cons (re_shl (re_var 2 (pv 2)) (re_var 3 (pv 3))) (ra_nil))) (re_var 4 (pv 4))))) (rss_nil)) (rss_cons (rs_if (rt_cmp (op_eqA hu) (rr_eq) (re_var 0 (pv 0)) (re_str) (nomark _)) (rss_one (rs_ret (re_shr (re_var 2 (pv 2)) (re_var 3 (pv 3))))) (rss_nil)) (rss_cons (rs_if (rt_cmp (op_eqA hu) (rr_eq) (re_var 0 (pv 0)) (re_str) (nomark _)) (rss_one (rs_ret (re_callTy rl_int1 call_int1 rfl G.int (by decide +kernel) (ra_cons (re_cmp (op_eqA hu) (rr_eq) (re_var 2 (pv 2)) (re_var 3 (pv 3)) (nomark _)) (ra_nil))))) (rss_nil)) (rss_cons (rs_if (rt_cmp (op_eqA hu) (rr_eq) (re_var 0 (pv 0)) (re_str) (nomark _)) (rss_one (rs_ret (re_callTy rl_int1 call_int1 rfl G.int (by decide +kernel) (ra_cons (re_cmp (op_lt) (rr_lt) (re_var 2 (pv 2)) (re_var 3 (pv 3)) (nomark _)) (ra_nil))))) (rss_nil)) (rss_one (rs_ret (re_callTy rl_int1 call_int1 rfl G.int (by decide +kernel) (ra_cons (re_cmp (op_lt) (rr_lt) (re_mod (re_callTy rl_int1 call_int1 rfl G.int (by decide +kernel) (ra_cons (re_add (re_var 2 (pv 2)) (re_fdiv (re_var 4 (pv 4)) (re_int))) (ra_nil))) (re_var 4 (pv 4))) (re_mod (re_callTy rl_int1 call_int1 rfl G.int (by decide +kernel) (ra_cons (re_add (re_var 3 (pv 3)) (re_fdiv (re_var 4 (pv 4)) (re_int))) (ra_nil))) (re_var 4 (pv 4))) (nomark _)) (ra_nil)))))))))))))))
def nm__law_value : List Str := ["formula", "width", "env", "parts", "part"]
theorem sc__law_value : FnScope nm__law_value ["formula", "width", "env"] (defScope (top 53)) := ⟨rfl, rfl, rfl, by decide +kernel, rfl, by decide +kernel, by decide +kernel⟩
theorem d__law_value {s__law_value s__law_two : DSp} (G : Gb K w mg) (C__law_value : Cal P w K mg base k "_law_value" ["formula", "width", "env"] s__law_value) (C__law_two : Cal P w K mg base k "_law_two" ["word", "width", "one", "other"] s__law_two) (T : Top K mg "_law_value" (top 53)) {sp : DSp} (len : ∀ ds M Q E, sp ds M Q E → ds.length = 3)
    (hq : ∀ ds M Q E, sp ds M Q E → b__law_value s__law_value s__law_two { nx := fun _ M' => Q .non M', rt := Q } (startD 5 ds) M) : Cal P w K mg base (k + 1) "_law_value" ["formula", "width", "env"] sp := by
  refine cal_mk (N := nm__law_value) T sc__law_value (fun _ _ _ _ _ _ us hl => match us, hl with | [_, _, _], _ => rfl) (fun f cdv A outer s H E hr => ?_) len hq
  have hu := hu66 hr
  have hu1 := hu_of hr
  exact rss_cons (rs_if (rt_val (re_isi .int (re_var 0 (pv 0)) (pe_ty .int G.int) rfl G.isinstance)) (rss_one (rs_ret (re_var 0 (pv 0)))) (rss_nil)) (rss_cons (rs_if (rt_val (re_isi .str (re_var 0 (pv 0)) (pe_ty .str G.str) rfl G.isinstance)) (rss_one (rs_ret (re_ix (ix_all hu1) rr_ix (re_var 2 (pv 2)) (re_var 0 (pv 0)) (fun _ _ => rfl)))) (rss_nil)) (rss_cons (rs_setLc (i := 3) (own := [("part", 4)]) rfl sc__law_value.nd rfl rfl (sw_true rfl rfl rfl (by decide +kernel)) (ri_val (re_slice (re_var 0 (pv 0)) (ro_some (re_int)) ro_none)) (blkOk_by (own := [("part", 4)]) (N := nm__law_value) (sc := defScope (top 53)) (by decide +kernel)) (by decide) (fun _ _ _ _ _ => (ptg_name (pg_name (i := 4) sc__law_value.nd rfl (by first | exact .inl rfl | exact .inr rfl)))) (fun _ _ _ _ _ => rts_nil) (fun _ _ _ _ _ => re_cal C__law_value hr (ra_cons (re_var 4 (pv 4)) (ra_cons (re_var 1 (pv 1)) (ra_cons (re_var 2 (pv 2)) (ra_nil)))))) (rss_cons (rs_if (rt_cmp (op_eqA hu) (rr_eq) (re_ix (ix_all hu1) rr_ix (re_var 0 (pv 0)) (re_int) (fun _ _ => rfl)) (re_str) (nomark _)) (rss_one (rs_ret (re_sub (re_sub (re_shl (re_int) (re_var 1 (pv 1))) (re_int)) (re_ix (ix_all hu1) rr_ix (re_var 3 (pv 3)) (re_int) (fun _ _ => rfl))))) (rss_nil)) (rss_cons (rs_if (rt_cmp (op_eqA hu) (rr_eq) (re_ix (ix_all hu1) rr_ix (re_var 0 (pv 0)) (re_int) (fun _ _ => rfl)) (re_str) (nomark _)) (rss_one (rs_ret (re_mod (re_callTy rl_int1 call_int1 rfl G.int (by decide +kernel) (ra_cons (re_sub (re_int) (re_ix (ix_all hu1) rr_ix (re_var 3 (pv 3)) (re_int) (fun _ _ => rfl))) (ra_nil))) (re_shl (re_int) (re_var 1 (pv 1)))))) (rss_nil)) (rss_cons (rs_if (rt_cmp (op_eqA hu) (rr_eq) (re_ix (ix_all hu1) rr_ix (re_var 0 (pv 0)) (re_int) (fun _ _ => rfl)) (re_str) (nomark _)) (rss_one (rs_ret (re_ix (ix_all hu1) rr_ix (re_var 3 (pv 3)) (re_add (re_int) (re_callTy rl_int1 call_int1 rfl G.int (by decide +kernel) (ra_cons (re_cmp (op_eqA hu) (rr_eq) (re_ix (ix_all hu1) rr_ix (re_var 3 (pv 3)) (re_int) (fun _ _ => rfl)) (re_int) (nomark _)) (ra_nil)))) (fun _ _ => rfl)))) (rss_nil)) (rss_one (rs_ret (re_cal C__law_two hr (ra_cons (re_ix (ix_all hu1) rr_ix (re_var 0 (pv 0)) (re_int) (fun _ _ => rfl)) (ra_cons (re_var 1 (pv 1)) (ra_cons (re_ix (ix_all hu1) rr_ix (re_var 3 (pv 3)) (re_int) (fun _ _ => rfl)) (ra_cons (re_ix (ix_all hu1) rr_ix (re_var 3 (pv 3)) (re_int) (fun _ _ => rfl)) (ra_nil)))))))))))))
def nm__law_book : List Str := ["numbers", "cursor", "width", "registers", "words", "word", "count", "base", "deeds", "k", "known", "formula", "name"]
theorem sc__law_book : FnScope nm__law_book ["numbers", "cursor"] (defScope (top 54)) := ⟨rfl, rfl, rfl, by decide +kernel, rfl, by decide +kernel, by decide +kernel⟩
theorem d__law_book {s__law_take s__law_formula s__law_names s__law_size : DSp} (G : Gb K w mg) (C__law_take : Cal P w K mg base k "_law_take" ["numbers", "cursor", "many"] s__law_take) (C__law_formula : Cal P w K mg base k "_law_formula" ["numbers", "cursor", "names", "width", "depth"] s__law_formula) (C__law_names : Cal P w K mg base k "_law_names" ["formula"] s__law_names) (C__law_size : Cal P w K mg base k "_law_size" ["formula"] s__law_size) (T : Top K mg "_law_book" (top 54)) {sp : DSp} (len : ∀ ds M Q E, sp ds M Q E → ds.length = 2)
    (hq : ∀ ds M Q E, sp ds M Q E → b__law_book s__law_take s__law_formula s__law_names s__law_size { nx := fun _ M' => Q .non M', rt := Q } (startD 13 ds) M) : Cal P w K mg base (k + 1) "_law_book" ["numbers", "cursor"] sp := by
  refine cal_mk (N := nm__law_book) T sc__law_book (fun _ _ _ _ _ _ us hl => match us, hl with | [_, _], _ => rfl) (fun f cdv A outer s H E hr => ?_) len hq
  have hu := hu66 hr
  have hu1 := hu_of hr
  exact rss_cons (rs_set (i := 2) sc__law_book.nd rfl (by first | exact .inl rfl | exact .inr rfl) (re_add (re_int) (re_cal C__law_take hr (ra_cons (re_var 0 (pv 0)) (ra_cons (re_var 1 (pv 1)) (ra_cons (re_int) (ra_nil))))))) (rss_cons (rs_set (i := 3) sc__law_book.nd rfl (by first | exact .inl rfl | exact .inr rfl) (re_add (re_int) (re_cal C__law_take hr (ra_cons (re_var 0 (pv 0)) (ra_cons (re_var 1 (pv 1)) (ra_cons (re_callB rl_min2 (call_min2 rfl) rfl G.min (by decide +kernel) (ra_cons (re_int) (ra_cons (re_fdiv (re_int) (re_var 2 (pv 2))) (ra_nil)))) (ra_nil))))))) (rss_cons (rs_setLc (i := 4) (own := [("word", 5)]) rfl sc__law_book.nd rfl rfl (sw_true rfl rfl rfl (by decide +kernel)) (ri_rng1 rfl G.range (ra_cons (re_shl (re_int) (re_var 2 (pv 2))) (ra_nil))) (blkOk_by (own := [("word", 5)]) (N := nm__law_book) (sc := defScope (top 54)) (by decide +kernel)) (by decide) (fun _ _ _ _ _ => (ptg_name (pg_name (i := 5) sc__law_book.nd rfl (by first | exact .inl rfl | exact .inr rfl)))) (fun _ _ _ _ _ => rts_one (rt_cmp (op_eqA hu) (rr_eq) (re_cal C__law_take hr (ra_cons (re_var 0 (pv 0)) (ra_cons (re_var 1 (pv 1)) (ra_cons (re_int) (ra_nil))))) (re_int) (nomark _))) (fun _ _ _ _ _ => re_var 5 (pv 5))) (rss_cons (rs_set (i := 4) sc__law_book.nd rfl (by first | exact .inl rfl | exact .inr rfl) (re_slice (re_var 4 (pv 4)) ro_none (ro_some (re_int)))) (rss_cons (rs_set (i := 6) sc__law_book.nd rfl (by first | exact .inl rfl | exact .inr rfl) (re_add (re_int) (re_cal C__law_take hr (ra_cons (re_var 0 (pv 0)) (ra_cons (re_var 1 (pv 1)) (ra_cons (re_int) (ra_nil))))))) (rss_cons (rs_if (rt_cmp (op_eqA hu) (rr_eq) (re_cal C__law_take hr (ra_cons (re_var 0 (pv 0)) (ra_cons (re_var 1 (pv 1)) (ra_cons (re_int) (ra_nil))))) (re_int) (nomark _)) (rss_one (rs_set (i := 6) sc__law_book.nd rfl (by first | exact .inl rfl | exact .inr rfl) (re_int))) (rss_nil)) (rss_cons (rs_set (i := 7) sc__law_book.nd rfl (by first | exact .inl rfl | exact .inr rfl) (re_cal C__law_take hr (ra_cons (re_var 0 (pv 0)) (ra_cons (re_var 1 (pv 1)) (ra_cons (re_int) (ra_nil)))))) (rss_cons (rs_set (i := 8) sc__law_book.nd rfl (by first | exact .inl rfl | exact .inr rfl) (re_lst (ra_nil))) (rss_cons (rs_for PassesOwn.never rfl (ri_rng1 rfl G.range (ra_cons (re_var 6 (pv 6)) (ra_nil))) (ptg_name (pg_name (i := 9) sc__law_book.nd rfl (by first | exact .inl rfl | exact .inr rfl))) (rss_cons (rs_set (i := 10) sc__law_book.nd rfl (by first | exact .inl rfl | exact .inr rfl) (re_ix (ix_all hu1) rr_ix (re_lst (ra_cons (re_lst (ra_cons (re_str) (ra_nil))) (ra_cons (re_lst (ra_cons (re_str) (ra_nil))) (ra_cons (re_lst (ra_cons (re_str) (ra_cons (re_str) (ra_nil)))) (ra_cons (re_lst (ra_cons (re_str) (ra_cons (re_str) (ra_nil)))) (ra_cons (re_lst (ra_cons (re_str) (ra_cons (re_str) (ra_cons (re_str) (ra_nil))))) (ra_cons (re_lst (ra_nil)) (ra_nil)))))))) (re_cal C__law_take hr (ra_cons (re_var 0 (pv 0)) (ra_cons (re_var 1 (pv 1)) (ra_cons (re_int) (ra_nil))))) (fun _ _ => rfl))) (rss_cons (rs_set (i := 11) sc__law_book.nd rfl (by first | exact .inl rfl | exact .inr rfl) (re_cal C__law_formula hr (ra_cons (re_var 0 (pv 0)) (ra_cons (re_var 1 (pv 1)) (ra_cons (re_var 10 (pv 10)) (ra_cons (re_var 2 (pv 2)) (ra_cons (re_int) (ra_nil)))))))) (rss_cons (rs_if (PW.pt (rw_and (rt_cmp (op_eqA hu) (rr_eq) (re_callB rl_len call_lenA rfl G.len (by decide +kernel) (ra_cons (re_var 10 (pv 10)) (ra_nil))) (re_int) (nomark _)) (rw_and1 (rt_cmp (op_eqA hu) (rr_eq) (re_cal C__law_take hr (ra_cons (re_var 0 (pv 0)) (ra_cons (re_var 1 (pv 1)) (ra_cons (re_int) (ra_nil))))) (re_int) (nomark _))))) (rss_one (rs_set (i := 11) sc__law_book.nd rfl (by first | exact .inl rfl | exact .inr rfl) (re_tup (ra_cons (re_ix (ix_all hu1) rr_ix (re_lst (ra_cons (re_str) (ra_cons (re_str) (ra_cons (re_str) (ra_cons (re_str) (ra_nil)))))) (re_cal C__law_take hr (ra_cons (re_var 0 (pv 0)) (ra_cons (re_var 1 (pv 1)) (ra_cons (re_int) (ra_nil))))) (fun _ _ => rfl)) (ra_cons (re_ix (ix_all hu1) rr_ix (re_var 10 (pv 10)) (re_int) (fun _ _ => rfl)) (ra_cons (re_ix (ix_all hu1) rr_ix (re_var 10 (pv 10)) (re_int) (fun _ _ => rfl)) (ra_nil))))))) (rss_nil)) (rss_cons (rs_if (PW.pt (rw_and (rt_cmp (op_inA hu1) (rr_in (neg := false)) (re_str) (re_cal C__law_names hr (ra_cons (re_var 11 (pv 11)) (ra_nil))) rfl) (rw_and1 (rt_cmp (op_notInA hu1) (rr_in (neg := true)) (re_str) (re_cal C__law_names hr (ra_cons (re_var 11 (pv 11)) (ra_nil))) rfl)))) (rss_one (rs_set (i := 11) sc__law_book.nd rfl (by first | exact .inl rfl | exact .inr rfl) (re_tup (ra_cons (re_str) (ra_cons (re_str) (ra_cons (re_str) (ra_nil))))))) (rss_nil)) (rss_cons (rs_if (rt_cmp (op_gt) (rr_gt) (re_cal C__law_size hr (ra_cons (re_var 11 (pv 11)) (ra_nil))) (re_int) (nomark _)) (rss_one (rs_set (i := 11) sc__law_book.nd rfl (by first | exact .inl rfl | exact .inr rfl) (re_tup (ra_cons (re_str) (ra_cons (re_ix (ix_all hu1) rr_ix (re_var 11 (pv 11)) (re_int) (fun _ _ => rfl)) (ra_cons (re_str) (ra_nil))))))) (rss_nil)) (rss_cons (rs_if (PW.pt (rw_or (rt_cmp (op_gt) (rr_gt) (re_cal C__law_size hr (ra_cons (re_var 11 (pv 11)) (ra_nil))) (re_int) (nomark _)) (rw_or1 (PW.pt (rw_and (rt_cmp (op_inA hu1) (rr_in (neg := false)) (re_str) (re_cal C__law_names hr (ra_cons (re_var 11 (pv 11)) (ra_nil))) rfl) (rw_and1 (rt_cmp (op_notInA hu1) (rr_in (neg := true)) (re_str) (re_cal C__law_names hr (ra_cons (re_var 11 (pv 11)) (ra_nil))) rfl))))))) (rss_one (rs_set (i := 11) sc__law_book.nd rfl (by first | exact .inl rfl | exact .inr rfl) (re_tup (ra_cons (re_str) (ra_cons (re_str) (ra_nil)))))) (rss_nil)) (rss_cons (rs_set (i := 12) sc__law_book.nd rfl (by first | exact .inl rfl | exact .inr rfl) (re_ix (ix_all hu1) rr_ix (re_lst (ra_cons (re_str) (ra_cons (re_str) (ra_cons (re_str) (ra_cons (re_str) (ra_cons (re_str) (ra_cons (re_str) (ra_nil)))))))) (re_mod (re_add (re_var 9 (pv 9)) (re_var 7 (pv 7))) (re_int)) (fun _ _ => rfl))) (rss_one (rs_expr (re_append (re_var 8 (pv 8)) (re_tup (ra_cons (re_var 12 (pv 12)) (ra_cons (re_add (re_int) (re_mul (re_cal C__law_take hr (ra_cons (re_var 0 (pv 0)) (ra_cons (re_var 1 (pv 1)) (ra_cons (re_int) (ra_nil))))) (re_cal C__law_take hr (ra_cons (re_var 0 (pv 0)) (ra_cons (re_var 1 (pv 1)) (ra_cons (re_int) (ra_nil))))))) (ra_cons (re_var 11 (pv 11)) (ra_nil)))))))))))))))) (rss_one (rs_ret (re_lst (ra_cons (re_var 2 (pv 2)) (ra_cons (re_var 3 (pv 3)) (ra_cons (re_var 4 (pv 4)) (ra_cons (re_var 8 (pv 8)) (ra_nil))))))))))))))))
def nm__law_names : List Str := ["formula", "found", "part"]
theorem sc__law_names : FnScope nm__law_names ["formula"] (defScope (top 55)) := ⟨rfl, rfl, rfl, by decide +kernel, rfl, by decide +kernel, by decide +kernel⟩
theorem d__law_names {s__law_names : DSp} (G : Gb K w mg) (C__law_names : Cal P w K mg base k "_law_names" ["formula"] s__law_names) (T : Top K mg "_law_names" (top 55)) {sp : DSp} (len : ∀ ds M Q E, sp ds M Q E → ds.length = 1)
    (hq : ∀ ds M Q E, sp ds M Q E → b__law_names_v2 s__law_names { nx := fun _ M' => Q .non M', rt := Q } (startD 3 ds) M) : Cal P w K mg base (k + 1) "_law_names" ["formula"] sp := by
  refine cal_mk (N := nm__law_names) T sc__law_names (fun _ _ _ _ _ _ us hl => match us, hl with | [_], _ => rfl) (fun f cdv A outer s H E hr => ?_) len hq
  have hu := hu66 hr
  have hu1 := hu_of hr
  exact rss_cons (rs_if (rt_val (re_isi .str (re_var 0 (pv 0)) (pe_ty .str G.str) rfl G.isinstance)) (rss_one (rs_ret (re_lst (ra_cons (re_var 0 (pv 0)) (ra_nil))))) (rss_nil)) (rss_cons (rs_set (i := 1) sc__law_names.nd rfl (by first | exact .inl rfl | exact .inr rfl) (re_lst (ra_nil))) (rss_cons (rs_if (rt_val (re_isi .tup (re_var 0 (pv 0)) (pe_ty .tup G.tuple) rfl G.isinstance)) (rss_one (rs_for PassesOwn.never rfl (ri_val (re_slice (re_var 0 (pv 0)) (ro_some (re_int)) ro_none)) (ptg_name (pg_name (i := 2) sc__law_names.nd rfl (by first | exact .inl rfl | exact .inr rfl))) (rss_one (rs_set (i := 1) sc__law_names.nd rfl (by first | exact .inl rfl | exact .inr rfl) (re_add (re_var 1 (pv 1)) (re_cal C__law_names hr (ra_cons (re_var 2 (pv 2)) (ra_nil)))))))) (rss_nil)) (rss_one (rs_ret (re_var 1 (pv 1))))))
def nm__law_size : List Str := ["formula", "part"]
theorem sc__law_size : FnScope nm__law_size ["formula"] (defScope (top 56)) := ⟨rfl, rfl, rfl, by decide +kernel, rfl, by decide +kernel, by decide +kernel⟩
theorem d__law_size {s__law_size : DSp} (G : Gb K w mg) (C__law_size : Cal P w K mg base k "_law_size" ["formula"] s__law_size) (T : Top K mg "_law_size" (top 56)) {sp : DSp} (len : ∀ ds M Q E, sp ds M Q E → ds.length = 1)
    (hq : ∀ ds M Q E, sp ds M Q E → b__law_size s__law_size { nx := fun _ M' => Q .non M', rt := Q } (startD 2 ds) M) : Cal P w K mg base (k + 1) "_law_size" ["formula"] sp := by
  refine cal_mk (N := nm__law_size) T sc__law_size (fun _ _ _ _ _ _ us hl => match us, hl with | [_], _ => rfl) (fun f cdv A outer s H E hr => ?_) len hq
  have hu := hu66 hr
  have hu1 := hu_of hr
  exact rss_cons (rs_if (rt_val (re_isi2 .int .str (re_var 0 (pv 0)) (pe_ty .int G.int) (pe_ty .str G.str) rfl G.isinstance)) (rss_one (rs_ret (re_int))) (rss_nil)) (rss_one (rs_ret (re_add (re_int) (re_callB rl_sumL (cr_sum rfl) rfl G.sum (by decide +kernel) (ra_cons (re_lc (own := [("part", 1)]) rfl sc__law_size.nd (ri_val (re_slice (re_var 0 (pv 0)) (ro_some (re_int)) ro_none)) (blkOk_by (own := [("part", 1)]) (N := nm__law_size) (sc := defScope (top 56)) (by decide +kernel)) (by decide) (fun _ _ _ _ _ => (ptg_name (pg_name (i := 1) sc__law_size.nd rfl (by first | exact .inl rfl | exact .inr rfl)))) (fun _ _ _ _ _ => rts_nil) (fun _ _ _ _ _ => re_cal C__law_size hr (ra_cons (re_var 1 (pv 1)) (ra_nil)))) (ra_nil))))))
def nm__law_sources : List Str := ["formula", "names"]
theorem sc__law_sources : FnScope nm__law_sources ["formula"] (defScope (top 57)) := ⟨rfl, rfl, rfl, by decide +kernel, rfl, by decide +kernel, by decide +kernel⟩
theorem d__law_sources {s__law_names : DSp} (G : Gb K w mg) (C__law_names : Cal P w K mg base k "_law_names" ["formula"] s__law_names) (T : Top K mg "_law_sources" (top 57)) {sp : DSp} (len : ∀ ds M Q E, sp ds M Q E → ds.length = 1)
    (hq : ∀ ds M Q E, sp ds M Q E → b__law_sources s__law_names { nx := fun _ M' => Q .non M', rt := Q } (startD 2 ds) M) : Cal P w K mg base (k + 1) "_law_sources" ["formula"] sp := by
  refine cal_mk (N := nm__law_sources) T sc__law_sources (fun _ _ _ _ _ _ us hl => match us, hl with | [_], _ => rfl) (fun f cdv A outer s H E hr => ?_) len hq
  have hu := hu66 hr
  have hu1 := hu_of hr
  exact rss_cons (rs_set (i := 1) sc__law_sources.nd rfl (by first | exact .inl rfl | exact .inr rfl) (re_cal C__law_names hr (ra_cons (re_var 0 (pv 0)) (ra_nil)))) (rss_one (rs_ret (re_add (re_callTy rl_int1 call_int1 rfl G.int (by decide +kernel) (ra_cons (re_cmp (op_inA hu1) (rr_in (neg := false)) (re_str) (re_var 1 (pv 1)) rfl) (ra_nil))) (re_callTy rl_int1 call_int1 rfl G.int (by decide +kernel) (ra_cons (re_cmp (op_inA hu1) (rr_in (neg := false)) (re_str) (re_var 1 (pv 1)) rfl) (ra_nil))))))
def nm__law_steps : List Str := ["data", "found", "name", "price", "formula", "sources", "register", "k", "words", "row", "word", "target"]
theorem sc__law_steps : FnScope nm__law_steps ["data"] (defScope (top 58)) := ⟨rfl, rfl, rfl, by decide +kernel, rfl, by decide +kernel, by decide +kernel⟩
theorem d__law_steps {s__law_sources s__law_names : DSp} (G : Gb K w mg) (C__law_sources : Cal P w K mg base k "_law_sources" ["formula"] s__law_sources) (C__law_names : Cal P w K mg base k "_law_names" ["formula"] s__law_names) (T : Top K mg "_law_steps" (top 58)) {sp : DSp} (len : ∀ ds M Q E, sp ds M Q E → ds.length = 1)
    (hq : ∀ ds M Q E, sp ds M Q E → b__law_steps s__law_sources s__law_names { nx := fun _ M' => Q .non M', rt := Q } (startD 12 ds) M) : Cal P w K mg base (k + 1) "_law_steps" ["data"] sp := by
  refine cal_mk (N := nm__law_steps) T sc__law_steps (fun _ _ _ _ _ _ us hl => match us, hl with | [_], _ => rfl) (fun f cdv A outer s H E hr => ?_) len hq
  have hu := hu66 hr
  have hu1 := hu_of hr
  exact rss_cons (rs_set (i := 1) sc__law_steps.nd rfl (by first | exact .inl rfl | exact .inr rfl) (re_lst (ra_nil))) (rss_cons (rs_for PassesOwn.never rfl (ri_val (re_ix (ix_all hu1) rr_ix (re_var 0 (pv 0)) (re_int) (fun _ _ => rfl))) (ptg_tup (is := [2, 3, 4]) rfl (pgs_cons (pg_name (i := 2) sc__law_steps.nd rfl (by first | exact .inl rfl | exact .inr rfl)) (pgs_cons (pg_name (i := 3) sc__law_steps.nd rfl (by first | exact .inl rfl | exact .inr rfl)) (pgs_cons (pg_name (i := 4) sc__law_steps.nd rfl (by first | exact .inl rfl | exact .inr rfl)) (pgs_nil)))) rfl) (rss_cons (rs_set (i := 5) sc__law_steps.nd rfl (by first | exact .inl rfl | exact .inr rfl) (re_lst (ra_cons (re_tup (ra_nil)) (ra_nil)))) (rss_cons (rs_if (rt_cmp (op_eqA hu) (rr_eq) (re_cal C__law_sources hr (ra_cons (re_var 4 (pv 4)) (ra_nil))) (re_int) (nomark _)) (rss_one (rs_setLc (i := 5) (own := [("register", 6)]) rfl sc__law_steps.nd rfl rfl (sw_true rfl rfl rfl (by decide +kernel)) (ri_rng1 rfl G.range (ra_cons (re_ix (ix_all hu1) rr_ix (re_var 0 (pv 0)) (re_int) (fun _ _ => rfl)) (ra_nil))) (blkOk_by (own := [("register", 6)]) (N := nm__law_steps) (sc := defScope (top 58)) (by decide +kernel)) (by decide) (fun _ _ _ _ _ => (ptg_name (pg_name (i := 6) sc__law_steps.nd rfl (by first | exact .inl rfl | exact .inr rfl)))) (fun _ _ _ _ _ => rts_nil) (fun _ _ _ _ _ => re_tup (ra_cons (re_var 6 (pv 6)) (ra_nil))))) (rss_nil)) (rss_cons (rs_if (rt_cmp (op_eqA hu) (rr_eq) (re_cal C__law_sources hr (ra_cons (re_var 4 (pv 4)) (ra_nil))) (re_int) (nomark _)) (rss_one (rs_setLc (i := 5) (own := [("k", 7)]) rfl sc__law_steps.nd rfl rfl (sw_true rfl rfl rfl (by decide +kernel)) (ri_rng1 rfl G.range (ra_cons (re_mul (re_ix (ix_all hu1) rr_ix (re_var 0 (pv 0)) (re_int) (fun _ _ => rfl)) (re_ix (ix_all hu1) rr_ix (re_var 0 (pv 0)) (re_int) (fun _ _ => rfl))) (ra_nil))) (blkOk_by (own := [("k", 7)]) (N := nm__law_steps) (sc := defScope (top 58)) (by decide +kernel)) (by decide) (fun _ _ _ _ _ => (ptg_name (pg_name (i := 7) sc__law_steps.nd rfl (by first | exact .inl rfl | exact .inr rfl)))) (fun _ _ _ _ _ => rts_nil) (fun _ _ _ _ _ => re_tup (ra_cons (re_fdiv (re_callTy rl_int1 call_int1 rfl G.int (by decide +kernel) (ra_cons (re_var 7 (pv 7)) (ra_nil))) (re_ix (ix_all hu1) rr_ix (re_var 0 (pv 0)) (re_int) (fun _ _ => rfl))) (ra_cons (re_mod (re_callTy rl_int1 call_int1 rfl G.int (by decide +kernel) (ra_cons (re_var 7 (pv 7)) (ra_nil))) (re_ix (ix_all hu1) rr_ix (re_var 0 (pv 0)) (re_int) (fun _ _ => rfl))) (ra_nil)))))) (rss_nil)) (rss_cons (rs_set (i := 8) sc__law_steps.nd rfl (by first | exact .inl rfl | exact .inr rfl) (re_lst (ra_cons (re_non) (ra_nil)))) (rss_cons (rs_if (rt_cmp (op_inA hu1) (rr_in (neg := false)) (re_str) (re_cal C__law_names hr (ra_cons (re_var 4 (pv 4)) (ra_nil))) rfl) (rss_one (rs_set (i := 8) sc__law_steps.nd rfl (by first | exact .inl rfl | exact .inr rfl) (re_ix (ix_all hu1) rr_ix (re_var 0 (pv 0)) (re_int) (fun _ _ => rfl)))) (rss_nil)) (rss_one (rs_for PassesOwn.never rfl (ri_val (re_var 5 (pv 5))) (ptg_name (pg_name (i := 9) sc__law_steps.nd rfl (by first | exact .inl rfl | exact .inr rfl))) (rss_one (rs_for PassesOwn.never rfl (ri_val (re_var 8 (pv 8))) (ptg_name (pg_name (i := 10) sc__law_steps.nd rfl (by first | exact .inl rfl | exact .inr rfl))) (rss_one (rs_for PassesOwn.never rfl (ri_rng1 rfl G.range (ra_cons (re_ix (ix_all hu1) rr_ix (re_var 0 (pv 0)) (re_int) (fun _ _ => rfl)) (ra_nil))) (ptg_name (pg_name (i := 11) sc__law_steps.nd rfl (by first | exact .inl rfl | exact .inr rfl))) (rss_one (rs_expr (re_append (re_var 1 (pv 1)) (re_tup (ra_cons (re_var 2 (pv 2)) (ra_cons (re_var 9 (pv 9)) (ra_cons (re_var 10 (pv 10)) (ra_cons (re_var 11 (pv 11)) (ra_nil))))))))))))))))))))) (rss_one (rs_ret (re_var 1 (pv 1)))))
def nm__law_deed : List Str := ["data", "name", "row"]
theorem sc__law_deed : FnScope nm__law_deed ["data", "name"] (defScope (top 59)) := ⟨rfl, rfl, rfl, by decide +kernel, rfl, by decide +kernel, by decide +kernel⟩
theorem d__law_deed (G : Gb K w mg) (T : Top K mg "_law_deed" (top 59)) {sp : DSp} (len : ∀ ds M Q E, sp ds M Q E → ds.length = 2)
    (hq : ∀ ds M Q E, sp ds M Q E → b__law_deed { nx := fun _ M' => Q .non M', rt := Q } (startD 3 ds) M) : Cal P w K mg base (k + 1) "_law_deed" ["data", "name"] sp := by
  refine cal_mk (N := nm__law_deed) T sc__law_deed (fun _ _ _ _ _ _ us hl => match us, hl with | [_, _], _ => rfl) (fun f cdv A outer s H E hr => ?_) len hq
  have hu := hu66 hr
  have hu1 := hu_of hr
  exact rss_cons (rs_for PassesOwn.never rfl (ri_val (re_ix (ix_all hu1) rr_ix (re_var 0 (pv 0)) (re_int) (fun _ _ => rfl))) (ptg_name (pg_name (i := 2) sc__law_deed.nd rfl (by first | exact .inl rfl | exact .inr rfl))) (rss_one (rs_if (rt_cmp (op_eqA hu) (rr_eq) (re_ix (ix_all hu1) rr_ix (re_var 2 (pv 2)) (re_int) (fun _ _ => rfl)) (re_var 1 (pv 1)) (nomark _)) (rss_one (rs_ret (re_var 2 (pv 2)))) (rss_nil)))) (rss_one (rs_ret (re_non)))
def nm__law_many : List Str := ["data", "steps", "many", "price", "step"]
theorem sc__law_many : FnScope nm__law_many ["data", "steps"] (defScope (top 60)) := ⟨rfl, rfl, rfl, by decide +kernel, rfl, by decide +kernel, by decide +kernel⟩
theorem d__law_many {s__law_deed : DSp} (G : Gb K w mg) (C__law_deed : Cal P w K mg base k "_law_deed" ["data", "name"] s__law_deed) (T : Top K mg "_law_many" (top 60)) {sp : DSp} (len : ∀ ds M Q E, sp ds M Q E → ds.length = 2)
    (hq : ∀ ds M Q E, sp ds M Q E → b__law_many s__law_deed { nx := fun _ M' => Q .non M', rt := Q } (startD 5 ds) M) : Cal P w K mg base (k + 1) "_law_many" ["data", "steps"] sp := by
  refine cal_mk (N := nm__law_many) T sc__law_many (fun _ _ _ _ _ _ us hl => match us, hl with | [_, _], _ => rfl) (fun f cdv A outer s H E hr => ?_) len hq
  have hu := hu66 hr
  have hu1 := hu_of hr
  exact rss_cons (rs_setLc (i := 2) (own := [("price", 3)]) rfl sc__law_many.nd rfl rfl (sw_true rfl rfl rfl (by decide +kernel)) (ri_rng1 rfl G.range (ra_cons (re_int) (ra_nil))) (blkOk_by (own := [("price", 3)]) (N := nm__law_many) (sc := defScope (top 60)) (by decide +kernel)) (by decide) (fun _ _ _ _ _ => (ptg_name (pg_name (i := 3) sc__law_many.nd rfl (by first | exact .inl rfl | exact .inr rfl)))) (fun _ _ _ _ _ => rts_nil) (fun _ _ _ _ _ => re_int)) (rss_cons (rs_for PassesOwn.never rfl (ri_val (re_var 1 (pv 1))) (ptg_name (pg_name (i := 4) sc__law_many.nd rfl (by first | exact .inl rfl | exact .inr rfl))) (rss_cons (rs_set (i := 3) sc__law_many.nd rfl (by first | exact .inl rfl | exact .inr rfl) (re_ix (ix_all hu1) rr_ix (re_cal C__law_deed hr (ra_cons (re_var 0 (pv 0)) (ra_cons (re_ix (ix_all hu1) rr_ix (re_var 4 (pv 4)) (re_int) (fun _ _ => rfl)) (ra_nil)))) (re_int) (fun _ _ => rfl))) (rss_one (rs_setIx hu1 (re_var 2 (pv 2)) (re_var 3 (pv 3)) (re_add (re_ix (ix_all hu1) rr_ix (re_var 2 (pv 2)) (re_var 3 (pv 3)) (fun _ _ => rfl)) (re_int)))))) (rss_one (rs_ret (re_var 2 (pv 2)))))
def nm__law_counts : List Str := ["many", "most", "counts", "total", "price"]
theorem sc__law_counts : FnScope nm__law_counts ["many", "most"] (defScope (top 61)) := ⟨rfl, rfl, rfl, by decide +kernel, rfl, by decide +kernel, by decide +kernel⟩
theorem d__law_counts (G : Gb K w mg) (T : Top K mg "_law_counts" (top 61)) {sp : DSp} (len : ∀ ds M Q E, sp ds M Q E → ds.length = 2)
    (hq : ∀ ds M Q E, sp ds M Q E → b__law_counts { nx := fun _ M' => Q .non M', rt := Q } (startD 5 ds) M) : Cal P w K mg base (k + 1) "_law_counts" ["many", "most"] sp := by
  refine cal_mk (N := nm__law_counts) T sc__law_counts (fun _ _ _ _ _ _ us hl => match us, hl with | [_, _], _ => rfl) (fun f cdv A outer s H E hr => ?_) len hq
  have hu := hu66 hr
  have hu1 := hu_of hr
  exact rss_cons (rs_set (i := 2) sc__law_counts.nd rfl (by first | exact .inl rfl | exact .inr rfl) (re_lst (ra_cons (re_int) (ra_nil)))) (rss_cons (rs_for PassesOwn.never rfl (ri_rng2 rfl G.range (ra_cons (re_int) (ra_cons (re_add (re_var 1 (pv 1)) (re_int)) (ra_nil)))) (ptg_name (pg_name (i := 3) sc__law_counts.nd rfl (by first | exact .inl rfl | exact .inr rfl))) (rss_one (rs_expr (re_append (re_var 2 (pv 2)) (re_callB rl_sumL (cr_sum rfl) rfl G.sum (by decide +kernel) (ra_cons (re_lc (own := [("price", 4)]) rfl sc__law_counts.nd (ri_rng2 rfl G.range (ra_cons (re_int) (ra_cons (re_add (re_callB rl_min2 (call_min2 rfl) rfl G.min (by decide +kernel) (ra_cons (re_var 3 (pv 3)) (ra_cons (re_int) (ra_nil)))) (re_int)) (ra_nil)))) (blkOk_by (own := [("price", 4)]) (N := nm__law_counts) (sc := defScope (top 61)) (by decide +kernel)) (by decide) (fun _ _ _ _ _ => (ptg_name (pg_name (i := 4) sc__law_counts.nd rfl (by first | exact .inl rfl | exact .inr rfl)))) (fun _ _ _ _ _ => rts_nil) (fun _ _ _ _ _ => re_mul (re_ix (ix_all hu1) rr_ix (re_var 0 (pv 0)) (re_var 4 (pv 4)) (fun _ _ => rfl)) (re_ix (ix_all hu1) rr_ix (re_var 2 (pv 2)) (re_sub (re_var 3 (pv 3)) (re_var 4 (pv 4))) (fun _ _ => rfl)))) (ra_nil))))))) (rss_one (rs_ret (re_callB rl_sumL (cr_sum rfl) rfl G.sum (by decide +kernel) (ra_cons (re_var 2 (pv 2)) (ra_nil))))))
def nm__law_after : List Str := ["data", "step", "state", "env", "k", "word"]
theorem sc__law_after : FnScope nm__law_after ["data", "step", "state"] (defScope (top 62)) := ⟨rfl, rfl, rfl, by decide +kernel, rfl, by decide +kernel, by decide +kernel⟩
theorem d__law_after {s__law_value s__law_deed : DSp} (G : Gb K w mg) (C__law_value : Cal P w K mg base k "_law_value" ["formula", "width", "env"] s__law_value) (C__law_deed : Cal P w K mg base k "_law_deed" ["data", "name"] s__law_deed) (T : Top K mg "_law_after" (top 62)) {sp : DSp} (len : ∀ ds M Q E, sp ds M Q E → ds.length = 3)
    (hq : ∀ ds M Q E, sp ds M Q E → b__law_after s__law_value s__law_deed { nx := fun _ M' => Q .non M', rt := Q } (startD 6 ds) M) : Cal P w K mg base (k + 1) "_law_after" ["data", "step", "state"] sp := by
  refine cal_mk (N := nm__law_after) T sc__law_after (fun _ _ _ _ _ _ us hl => match us, hl with | [_, _, _], _ => rfl) (fun f cdv A outer s H E hr => ?_) len hq
  have hu := hu66 hr
  have hu1 := hu_of hr
  exact rss_cons (rs_set (i := 3) sc__law_after.nd rfl (by first | exact .inl rfl | exact .inr rfl) (re_disp (ps := [(dC (.str "k"), dOp oIx (dVar 1) (dC (.int 2)))]) (pps_cons (re_str) (re_ix (ix_all hu1) rr_ix (re_var 1 (pv 1)) (re_int) (fun _ _ => rfl)) (pps_nil)) (by rfl) (by rfl) (fun z => by cases z) (by decide))) (rss_cons (rs_for PassesOwn.never rfl (ri_rng1 rfl G.range (ra_cons (re_callB rl_len call_lenA rfl G.len (by decide +kernel) (ra_cons (re_ix (ix_all hu1) rr_ix (re_var 1 (pv 1)) (re_int) (fun _ _ => rfl)) (ra_nil))) (ra_nil))) (ptg_name (pg_name (i := 4) sc__law_after.nd rfl (by first | exact .inl rfl | exact .inr rfl))) (rss_one (rs_setIx hu1 (re_var 3 (pv 3)) (re_ix (ix_all hu1) rr_ix (re_str) (re_var 4 (pv 4)) (fun _ _ => rfl)) (re_ix (ix_all hu1) rr_ix (re_var 2 (pv 2)) (re_ix (ix_all hu1) rr_ix (re_ix (ix_all hu1) rr_ix (re_var 1 (pv 1)) (re_int) (fun _ _ => rfl)) (re_var 4 (pv 4)) (fun _ _ => rfl)) (fun _ _ => rfl))))) (rss_cons (rs_set (i := 5) sc__law_after.nd rfl (by first | exact .inl rfl | exact .inr rfl) (re_cal C__law_value hr (ra_cons (re_ix (ix_all hu1) rr_ix (re_cal C__law_deed hr (ra_cons (re_var 0 (pv 0)) (ra_cons (re_ix (ix_all hu1) rr_ix (re_var 1 (pv 1)) (re_int) (fun _ _ => rfl)) (ra_nil)))) (re_int) (fun _ _ => rfl)) (ra_cons (re_ix (ix_all hu1) rr_ix (re_var 0 (pv 0)) (re_int) (fun _ _ => rfl)) (ra_cons (re_var 3 (pv 3)) (ra_nil)))))) (rss_one (rs_ret (re_add (re_add (re_slice (re_var 2 (pv 2)) ro_none (ro_some (re_ix (ix_all hu1) rr_ix (re_var 1 (pv 1)) (re_int) (fun _ _ => rfl)))) (re_tup (ra_cons (re_var 5 (pv 5)) (ra_nil)))) (re_slice (re_var 2 (pv 2)) (ro_some (re_add (re_ix (ix_all hu1) rr_ix (re_var 1 (pv 1)) (re_int) (fun _ _ => rfl)) (re_int))) ro_none))))))
def nm__law_spoilt : List Str := ["numbers", "cursor", "data", "step", "name", "sources", "word", "target", "kind", "free"]
theorem sc__law_spoilt : FnScope nm__law_spoilt ["numbers", "cursor", "data", "step"] (defScope (top 63)) := ⟨rfl, rfl, rfl, by decide +kernel, rfl, by decide +kernel, by decide +kernel⟩
theorem d__law_spoilt {s__law_take : DSp} (G : Gb K w mg) (C__law_take : Cal P w K mg base k "_law_take" ["numbers", "cursor", "many"] s__law_take) (T : Top K mg "_law_spoilt" (top 63)) {sp : DSp} (len : ∀ ds M Q E, sp ds M Q E → ds.length = 4)
    (hq : ∀ ds M Q E, sp ds M Q E → b__law_spoilt_v2 s__law_take { nx := fun _ M' => Q .non M', rt := Q } (startD 10 ds) M) : Cal P w K mg base (k + 1) "_law_spoilt" ["numbers", "cursor", "data", "step"] sp := by
  refine cal_mk (N := nm__law_spoilt) T sc__law_spoilt (fun _ _ _ _ _ _ us hl => match us, hl with | [_, _, _, _], _ => rfl) (fun f cdv A outer s H E hr => ?_) len hq
  have hu := hu66 hr
  have hu1 := hu_of hr
  exact rss_cons (rs_asg (re_var 3 (pv 3)) (ptg_tup (is := [4, 5, 6, 7]) rfl (pgs_cons (pg_name (i := 4) sc__law_spoilt.nd rfl (by first | exact .inl rfl | exact .inr rfl)) (pgs_cons (pg_name (i := 5) sc__law_spoilt.nd rfl (by first | exact .inl rfl | exact .inr rfl)) (pgs_cons (pg_name (i := 6) sc__law_spoilt.nd rfl (by first | exact .inl rfl | exact .inr rfl)) (pgs_cons (pg_name (i := 7) sc__law_spoilt.nd rfl (by first | exact .inl rfl | exact .inr rfl)) (pgs_nil))))) rfl)) (rss_cons (rs_set (i := 8) sc__law_spoilt.nd rfl (by first | exact .inl rfl | exact .inr rfl) (re_cal C__law_take hr (ra_cons (re_var 0 (pv 0)) (ra_cons (re_var 1 (pv 1)) (ra_cons (re_int) (ra_nil)))))) (rss_cons (rs_if (rt_cmp (op_eqA hu) (rr_eq) (re_var 8 (pv 8)) (re_int) (nomark _)) (rss_one (rs_ret (re_tup (ra_cons (re_str) (ra_cons (re_var 5 (pv 5)) (ra_cons (re_var 6 (pv 6)) (ra_cons (re_var 7 (pv 7)) (ra_nil)))))))) (rss_nil)) (rss_cons (rs_if (rt_cmp (op_eqA hu) (rr_eq) (re_var 8 (pv 8)) (re_int) (nomark _)) (rss_one (rs_ret (re_tup (ra_cons (re_var 4 (pv 4)) (ra_cons (re_add (re_var 5 (pv 5)) (re_tup (ra_cons (re_int) (ra_nil)))) (ra_cons (re_var 6 (pv 6)) (ra_cons (re_var 7 (pv 7)) (ra_nil)))))))) (rss_nil)) (rss_cons (rs_if (PW.pt (rw_and (rt_cmp (op_eqA hu) (rr_eq) (re_var 8 (pv 8)) (re_int) (nomark _)) (rw_and1 (rt_cmp (op_gt) (rr_gt) (re_callB rl_len call_lenA rfl G.len (by decide +kernel) (ra_cons (re_var 5 (pv 5)) (ra_nil))) (re_int) (nomark _))))) (rss_one (rs_ret (re_tup (ra_cons (re_var 4 (pv 4)) (ra_cons (re_slice (re_var 5 (pv 5)) (ro_some (re_int)) ro_none) (ra_cons (re_var 6 (pv 6)) (ra_cons (re_var 7 (pv 7)) (ra_nil)))))))) (rss_nil)) (rss_cons (rs_if (PW.pt (rw_and (rt_cmp (op_eqA hu) (rr_eq) (re_var 8 (pv 8)) (re_int) (nomark _)) (rw_and1 (rt_cmp (op_gt) (rr_gt) (re_callB rl_len call_lenA rfl G.len (by decide +kernel) (ra_cons (re_var 5 (pv 5)) (ra_nil))) (re_int) (nomark _))))) (rss_one (rs_ret (re_tup (ra_cons (re_var 4 (pv 4)) (ra_cons (re_add (re_slice (re_var 5 (pv 5)) (ro_some (re_int)) ro_none) (re_tup (ra_cons (re_ix (ix_all hu1) rr_ix (re_var 2 (pv 2)) (re_int) (fun _ _ => rfl)) (ra_nil)))) (ra_cons (re_var 6 (pv 6)) (ra_cons (re_var 7 (pv 7)) (ra_nil)))))))) (rss_nil)) (rss_cons (rs_if (PW.pt (rw_and (rt_cmp (op_eqA hu) (rr_eq) (re_var 8 (pv 8)) (re_int) (nomark _)) (rw_and1 (rt_cmp (op_gt) (rr_gt) (re_callB rl_len call_lenA rfl G.len (by decide +kernel) (ra_cons (re_var 5 (pv 5)) (ra_nil))) (re_int) (nomark _))))) (rss_one (rs_ret (re_tup (ra_cons (re_var 4 (pv 4)) (ra_cons (re_add (re_tup (ra_cons (re_neg (re_int)) (ra_nil))) (re_slice (re_var 5 (pv 5)) (ro_some (re_int)) ro_none)) (ra_cons (re_var 6 (pv 6)) (ra_cons (re_var 7 (pv 7)) (ra_nil)))))))) (rss_nil)) (rss_cons (rs_if (rt_cmp (op_eqA hu) (rr_eq) (re_var 8 (pv 8)) (re_int) (nomark _)) (rss_one (rs_ret (re_tup (ra_cons (re_var 4 (pv 4)) (ra_cons (re_var 5 (pv 5)) (ra_cons (re_var 6 (pv 6)) (ra_cons (re_neg (re_int)) (ra_nil)))))))) (rss_nil)) (rss_cons (rs_if (PW.pt (rw_and (rt_cmp (op_eqA hu) (rr_eq) (re_var 8 (pv 8)) (re_int) (nomark _)) (rw_and1 (rt_cmp (op_isnotA) (rr_is (neg := true)) (re_var 6 (pv 6)) (re_non) (nomark _))))) (rss_one (rs_ret (re_tup (ra_cons (re_var 4 (pv 4)) (ra_cons (re_var 5 (pv 5)) (ra_cons (re_non) (ra_cons (re_var 7 (pv 7)) (ra_nil)))))))) (rss_nil)) (rss_cons (rs_if (PW.pt (rw_and (rt_cmp (op_eqA hu) (rr_eq) (re_var 8 (pv 8)) (re_int) (nomark _)) (rw_and1 (rt_cmp (op_isA) (rr_is (neg := false)) (re_var 6 (pv 6)) (re_non) (nomark _))))) (rss_one (rs_ret (re_tup (ra_cons (re_var 4 (pv 4)) (ra_cons (re_var 5 (pv 5)) (ra_cons (re_int) (ra_cons (re_var 7 (pv 7)) (ra_nil)))))))) (rss_nil)) (rss_cons (rs_if (PW.pt (rw_and (rt_cmp (op_eqA hu) (rr_eq) (re_var 8 (pv 8)) (re_int) (nomark _)) (rw_and1 (rt_cmp (op_lt) (rr_lt) (re_callB rl_len call_lenA rfl G.len (by decide +kernel) (ra_cons (re_ix (ix_all hu1) rr_ix (re_var 2 (pv 2)) (re_int) (fun _ _ => rfl)) (ra_nil))) (re_shl (re_int) (re_ix (ix_all hu1) rr_ix (re_var 2 (pv 2)) (re_int) (fun _ _ => rfl))) (nomark _))))) (rss_one (rs_ret (re_tup (ra_cons (re_var 4 (pv 4)) (ra_cons (re_var 5 (pv 5)) (ra_cons (re_ix (ix_all hu1) rr_ix (re_lc (own := [("free", 9)]) rfl sc__law_spoilt.nd (ri_rng1 rfl G.range (ra_cons (re_shl (re_int) (re_ix (ix_all hu1) rr_ix (re_var 2 (pv 2)) (re_int) (fun _ _ => rfl))) (ra_nil))) (blkOk_by (own := [("free", 9)]) (N := nm__law_spoilt) (sc := defScope (top 63)) (by decide +kernel)) (by decide) (fun _ _ _ _ _ => (ptg_name (pg_name (i := 9) sc__law_spoilt.nd rfl (by first | exact .inl rfl | exact .inr rfl)))) (fun _ _ _ _ _ => rts_one (rt_cmp (op_notInA hu1) (rr_in (neg := true)) (re_var 9 (pv 9)) (re_ix (ix_all hu1) rr_ix (re_var 2 (pv 2)) (re_int) (fun _ _ => rfl)) rfl)) (fun _ _ _ _ _ => re_var 9 (pv 9))) (re_int) (fun _ _ => rfl)) (ra_cons (re_var 7 (pv 7)) (ra_nil)))))))) (rss_nil)) (rss_one (rs_ret (re_tup (ra_cons (re_var 4 (pv 4)) (ra_cons (re_var 5 (pv 5)) (ra_cons (re_var 6 (pv 6)) (ra_cons (re_ix (ix_all hu1) rr_ix (re_var 2 (pv 2)) (re_int) (fun _ _ => rfl)) (ra_nil))))))))))))))))))
def nm__law_is_whole : List Str := ["told", "due"]
theorem sc__law_is_whole : FnScope nm__law_is_whole ["told", "due"] (defScope (top 64)) := ⟨rfl, rfl, rfl, by decide +kernel, rfl, by decide +kernel, by decide +kernel⟩
theorem d__law_is_whole (G : Gb K w mg) (T : Top K mg "_law_is_whole" (top 64)) {sp : DSp} (len : ∀ ds M Q E, sp ds M Q E → ds.length = 2)
    (hq : ∀ ds M Q E, sp ds M Q E → b__law_is_whole { nx := fun _ M' => Q .non M', rt := Q } (startD 2 ds) M) : Cal P w K mg base (k + 1) "_law_is_whole" ["told", "due"] sp := by
  refine cal_mk (N := nm__law_is_whole) T sc__law_is_whole (fun _ _ _ _ _ _ us hl => match us, hl with | [_, _], _ => rfl) (fun f cdv A outer s H E hr => ?_) len hq
  have hu := hu66 hr
  have hu1 := hu_of hr
  exact rss_one (rs_ret (re_and (re_isi .int (re_var 0 (pv 0)) (pe_ty .int G.int) rfl G.isinstance) (re_and (re_not (re_isi .bl (re_var 0 (pv 0)) (pe_ty .bl G.bool) rfl G.isinstance)) (re_one (re_cmp (op_eqA hu) (rr_eq) (re_var 0 (pv 0)) (re_var 1 (pv 1)) (nomark _))))))
def nm__law_is_state : List Str := ["told", "due", "word"]
theorem sc__law_is_state : FnScope nm__law_is_state ["told", "due"] (defScope (top 65)) := ⟨rfl, rfl, rfl, by decide +kernel, rfl, by decide +kernel, by decide +kernel⟩
theorem d__law_is_state (G : Gb K w mg) (T : Top K mg "_law_is_state" (top 65)) {sp : DSp} (len : ∀ ds M Q E, sp ds M Q E → ds.length = 2)
    (hq : ∀ ds M Q E, sp ds M Q E → b__law_is_state { nx := fun _ M' => Q .non M', rt := Q } (startD 3 ds) M) : Cal P w K mg base (k + 1) "_law_is_state" ["told", "due"] sp := by
  refine cal_mk (N := nm__law_is_state) T sc__law_is_state (fun _ _ _ _ _ _ us hl => match us, hl with | [_, _], _ => rfl) (fun f cdv A outer s H E hr => ?_) len hq
  have hu := hu66 hr
  have hu1 := hu_of hr
  exact rss_cons (rs_if (PW.pt (rw_or (rt_not (rt_val (re_isi .tup (re_var 0 (pv 0)) (pe_ty .tup G.tuple) rfl G.isinstance))) (rw_or1 (rt_cmp (op_neA hu) (rr_ne) (re_var 0 (pv 0)) (re_var 1 (pv 1)) (nomark _))))) (rss_one (rs_ret (re_bl))) (rss_nil)) (rss_one (rs_ret (re_cmp (op_eqA hu) (rr_eq) (re_callB rl_len call_lenA rfl G.len (by decide +kernel) (ra_cons (re_lc (own := [("word", 2)]) rfl sc__law_is_state.nd (ri_val (re_var 0 (pv 0))) (blkOk_by (own := [("word", 2)]) (N := nm__law_is_state) (sc := defScope (top 65)) (by decide +kernel)) (by decide) (fun _ _ _ _ _ => (ptg_name (pg_name (i := 2) sc__law_is_state.nd rfl (by first | exact .inl rfl | exact .inr rfl)))) (fun _ _ _ _ _ => rts_one (PW.pt (rw_or (rt_not (rt_val (re_isi .int (re_var 2 (pv 2)) (pe_ty .int G.int) rfl G.isinstance))) (rw_or1 (rt_val (re_isi .bl (re_var 2 (pv 2)) (pe_ty .bl G.bool) rfl G.isinstance)))))) (fun _ _ _ _ _ => re_var 2 (pv 2))) (ra_nil))) (re_int) (nomark _))))
def nm__law_bad : List Str := ["book", "code", "state", "kind", "e"]
theorem sc__law_bad : FnScope nm__law_bad ["book", "code", "state", "kind"] (defScope (top 66)) := ⟨rfl, rfl, rfl, by decide +kernel, rfl, by decide +kernel, by decide +kernel⟩
theorem d__law_bad {c_BadCode : Addr} {c_NoneshorterError : Addr} {c_BadText : Addr} {s_check_codeX s_code_priceX s_run_codeX : DSp} (G : Gb K w mg) (M_BadCode : mg "BadCode" = some (.ref c_BadCode)) (M_NoneshorterError : mg "NoneshorterError" = some (.ref c_NoneshorterError)) (M_BadText : mg "BadText" = some (.ref c_BadText)) (XF_BadCode : XfC K c_BadCode) (EC_BadCode : ExcC K c_BadCode) (NO_BadCode : PySem.W.findIn K (.ref c_BadCode) "at" = some none) (CX_check_code : CalX P w K mg base k "check_code" ["book", "code"] s_check_codeX) (CX_code_price : CalX P w K mg base k "code_price" ["book", "code"] s_code_priceX) (CX_run_code : CalX P w K mg base k "run_code" ["book", "code", "state"] s_run_codeX) (T : Top K mg "_law_bad" (top 66)) {sp : DSp} (len : ∀ ds M Q E, sp ds M Q E → ds.length = 4)
    (hq : ∀ ds M Q E, sp ds M Q E → b__law_bad c_BadCode c_NoneshorterError c_BadText (fun cls => PySem.W.exmOne K cls (.ref c_BadCode)) (fun t => PySem.W.kitOne K t (.ref c_NoneshorterError)) (fun t => PySem.W.kitOne K t (.ref c_BadText)) s_check_codeX s_code_priceX s_run_codeX { nx := fun _ M' => Q .non M', rt := Q } (startD 5 ds) M) : Cal P w K mg base (k + 1) "_law_bad" ["book", "code", "state", "kind"] sp := by
  refine cal_mk (N := nm__law_bad) T sc__law_bad (fun _ _ _ _ _ _ us hl => match us, hl with | [_, _, _, _], _ => rfl) (fun f cdv A outer s H E hr => ?_) len hq
  have hu := hu66 hr
  have hu1 := hu_of hr
  exact rss_cons (rs_tryAs rfl rfl sc__law_bad.nd rfl rfl ⟨rfl, by decide, .inl M_BadCode⟩ (fun pn xe po => rss_cons (rs_if (rt_cmp (op_eqA hu) (rr_eq) (re_var 3 (pv 3)) (re_int) (nomark _)) (rss_one (rs_dropR (rx_call CX_check_code hr (ra_cons (re_var 0 (pv 0)) (ra_cons (re_var 1 (pv 1)) (ra_nil)))))) (rss_nil)) (rss_cons (rs_if (rt_cmp (op_eqA hu) (rr_eq) (re_var 3 (pv 3)) (re_int) (nomark _)) (rss_one (rs_dropR (rx_call CX_code_price hr (ra_cons (re_var 0 (pv 0)) (ra_cons (re_var 1 (pv 1)) (ra_nil)))))) (rss_nil)) (rss_one (rs_if (rt_cmp (op_eqA hu) (rr_eq) (re_var 3 (pv 3)) (re_int) (nomark _)) (rss_one (rs_dropR (rx_call CX_run_code hr (ra_cons (re_var 0 (pv 0)) (ra_cons (re_var 1 (pv 1)) (ra_cons (re_var 2 (pv 2)) (ra_nil))))))) (rss_nil))))) (fun a oe cls d pn hz hf => rss_cons (rs_if (PW.pt (rw_or (rt_not (rt_val (re_isX EC_BadCode hz hf (re_var 4 (pv 4)) (pe_glob (v := .ref c_NoneshorterError) rfl M_NoneshorterError rfl) (fun _ h => h) rfl G.isinstance))) (rw_or (rt_val (re_isX EC_BadCode hz hf (re_var 4 (pv 4)) (pe_glob (v := .ref c_BadText) rfl M_BadText rfl) (fun _ h => h) rfl G.isinstance)) (rw_or1 (rt_val (re_isi .bl (re_xf XF_BadCode NO_BadCode hz hf (re_var 4 (pv 4))) (pe_ty .bl G.bool) rfl G.isinstance)))))) (rss_one (rs_ret (re_neg (re_int)))) (rss_nil)) (rss_one (rs_ret (re_xf XF_BadCode NO_BadCode hz hf (re_var 4 (pv 4))))))) (rss_one (rs_ret (re_neg (re_int))))
def nm__law_unknown : List Str := ["book", "name", "e"]
theorem sc__law_unknown : FnScope nm__law_unknown ["book", "name"] (defScope (top 67)) := ⟨rfl, rfl, rfl, by decide +kernel, rfl, by decide +kernel, by decide +kernel⟩
theorem d__law_unknown {c_Book : Addr} {c_NoName : Addr} {c_NoneshorterError : Addr} {s_BookdeedX : DSp} (G : Gb K w mg) (M_NoName : mg "NoName" = some (.ref c_NoName)) (M_NoneshorterError : mg "NoneshorterError" = some (.ref c_NoneshorterError)) (XF_NoName : XfC K c_NoName) (EC_NoName : ExcC K c_NoName) (NO_NoName : PySem.W.findIn K (.ref c_NoName) "name" = some none) (MX_Bookdeed : CalMX P w K mg base k c_Book "deed" ["self", "name"] s_BookdeedX) (T : Top K mg "_law_unknown" (top 67)) {sp : DSp} (len : ∀ ds M Q E, sp ds M Q E → ds.length = 2)
    (hq : ∀ ds M Q E, sp ds M Q E → b__law_unknown c_Book c_NoName c_NoneshorterError (fun cls => PySem.W.exmOne K cls (.ref c_NoName)) (fun t => PySem.W.kitOne K t (.ref c_NoneshorterError)) s_BookdeedX { nx := fun _ M' => Q .non M', rt := Q } (startD 3 ds) M) : Cal P w K mg base (k + 1) "_law_unknown" ["book", "name"] sp := by
  refine cal_mk (N := nm__law_unknown) T sc__law_unknown (fun _ _ _ _ _ _ us hl => match us, hl with | [_, _], _ => rfl) (fun f cdv A outer s H E hr => ?_) len hq
  have hu := hu66 hr
  have hu1 := hu_of hr
  exact rss_cons (rs_tryAs rfl rfl sc__law_unknown.nd rfl rfl ⟨rfl, by decide, .inl M_NoName⟩ (fun pn xe po => rss_one (rs_dropR (rx_meth MX_Bookdeed hr (re_var 0 (pv 0)) (ra_cons (re_var 1 (pv 1)) (ra_nil))))) (fun a oe cls d pn hz hf => rss_one (rs_ret (re_and (re_isX EC_NoName hz hf (re_var 2 (pv 2)) (pe_glob (v := .ref c_NoneshorterError) rfl M_NoneshorterError rfl) (fun _ h => h) rfl G.isinstance) (re_one (re_cmp (op_eqA hu) (rr_eq) (re_xf XF_NoName NO_NoName hz hf (re_var 2 (pv 2))) (re_var 1 (pv 1)) (nomark _))))))) (rss_one (rs_ret (re_bl)))
def nm__law_book_asked : List Str := ["numbers", "cursor", "data", "book", "steps", "told", "row", "many", "most"]
theorem sc__law_book_asked : FnScope nm__law_book_asked ["numbers", "cursor", "data", "book", "steps"] (defScope (top 68)) := ⟨rfl, rfl, rfl, by decide +kernel, rfl, by decide +kernel, by decide +kernel⟩
theorem d__law_book_asked {c_Book : Addr} {s_Booksteps s_Bookdeed s_Bookcodes_within s__law_unknown s__law_many s__law_take s__law_is_whole s__law_counts : DSp} (G : Gb K w mg) (Mt_Booksteps : CalM P w K mg base k c_Book "steps" ["self"] s_Booksteps) (Mt_Bookdeed : CalM P w K mg base k c_Book "deed" ["self", "name"] s_Bookdeed) (Mt_Bookcodes_within : CalM P w K mg base k c_Book "codes_within" ["self", "most"] s_Bookcodes_within) (C__law_unknown : Cal P w K mg base k "_law_unknown" ["book", "name"] s__law_unknown) (C__law_many : Cal P w K mg base k "_law_many" ["data", "steps"] s__law_many) (C__law_take : Cal P w K mg base k "_law_take" ["numbers", "cursor", "many"] s__law_take) (C__law_is_whole : Cal P w K mg base k "_law_is_whole" ["told", "due"] s__law_is_whole) (C__law_counts : Cal P w K mg base k "_law_counts" ["many", "most"] s__law_counts) (T : Top K mg "_law_book_asked" (top 68)) {sp : DSp} (len : ∀ ds M Q E, sp ds M Q E → ds.length = 5)
    (hq : ∀ ds M Q E, sp ds M Q E → b__law_book_asked c_Book s_Booksteps s_Bookdeed s_Bookcodes_within s__law_unknown s__law_many s__law_take s__law_is_whole s__law_counts { nx := fun _ M' => Q .non M', rt := Q } (startD 9 ds) M) : Cal P w K mg base (k + 1) "_law_book_asked" ["numbers", "cursor", "data", "book", "steps"] sp := by
  refine cal_mk (N := nm__law_book_asked) T sc__law_book_asked (fun _ _ _ _ _ _ us hl => match us, hl with | [_, _, _, _, _], _ => rfl) (fun f cdv A outer s H E hr => ?_) len hq
  have hu := hu66 hr
  have hu1 := hu_of hr
  exact rss_cons (rs_set (i := 5) sc__law_book_asked.nd rfl (by first | exact .inl rfl | exact .inr rfl) (re_meth0 Mt_Booksteps hr (re_var 3 (pv 3)))) (rss_cons (rs_if (PW.pt (rw_or (rt_not (rt_val (re_isi .lst (re_var 5 (pv 5)) (pe_ty .lst G.list) rfl G.isinstance))) (rw_or1 (rt_cmp (op_neA hu) (rr_ne) (re_var 5 (pv 5)) (re_var 4 (pv 4)) (nomark _))))) (rss_one (rs_ret (re_bl))) (rss_nil)) (rss_cons (rs_expr (re_append (re_var 5 (pv 5)) (re_tup (ra_nil)))) (rss_cons (rs_for PassesOwn.never rfl (ri_val (re_ix (ix_all hu1) rr_ix (re_var 2 (pv 2)) (re_int) (fun _ _ => rfl))) (ptg_name (pg_name (i := 6) sc__law_book_asked.nd rfl (by first | exact .inl rfl | exact .inr rfl))) (rss_one (rs_if (PW.pt (rw_or (rt_not (rt_val (re_isi .tup (re_meth Mt_Bookdeed hr (re_var 3 (pv 3)) (ra_cons (re_ix (ix_all hu1) rr_ix (re_var 6 (pv 6)) (re_int) (fun _ _ => rfl)) (ra_nil))) (pe_ty .tup G.tuple) rfl G.isinstance))) (rw_or1 (rt_cmp (op_neA hu) (rr_ne) (re_meth Mt_Bookdeed hr (re_var 3 (pv 3)) (ra_cons (re_ix (ix_all hu1) rr_ix (re_var 6 (pv 6)) (re_int) (fun _ _ => rfl)) (ra_nil))) (re_var 6 (pv 6)) (nomark _))))) (rss_one (rs_ret (re_bl))) (rss_nil)))) (rss_cons (rs_if (PW.pt (rw_or (rt_not (rt_val (re_cal C__law_unknown hr (ra_cons (re_var 3 (pv 3)) (ra_cons (re_str) (ra_nil)))))) (rw_or1 (rt_not (rt_val (re_cal C__law_unknown hr (ra_cons (re_var 3 (pv 3)) (ra_cons (re_str) (ra_nil))))))))) (rss_one (rs_ret (re_bl))) (rss_nil)) (rss_cons (rs_set (i := 7) sc__law_book_asked.nd rfl (by first | exact .inl rfl | exact .inr rfl) (re_cal C__law_many hr (ra_cons (re_var 2 (pv 2)) (ra_cons (re_var 4 (pv 4)) (ra_nil))))) (rss_cons (rs_for PassesOwn.never rfl (ri_val (re_lst (ra_cons (re_int) (ra_cons (re_int) (ra_cons (re_int) (ra_cons (re_int) (ra_cons (re_int) (ra_cons (re_int) (ra_cons (re_add (re_int) (re_cal C__law_take hr (ra_cons (re_var 0 (pv 0)) (ra_cons (re_var 1 (pv 1)) (ra_cons (re_int) (ra_nil)))))) (ra_nil)))))))))) (ptg_name (pg_name (i := 8) sc__law_book_asked.nd rfl (by first | exact .inl rfl | exact .inr rfl))) (rss_one (rs_if (rt_not (rt_val (re_cal C__law_is_whole hr (ra_cons (re_meth Mt_Bookcodes_within hr (re_var 3 (pv 3)) (ra_cons (re_var 8 (pv 8)) (ra_nil))) (ra_cons (re_cal C__law_counts hr (ra_cons (re_var 7 (pv 7)) (ra_cons (re_var 8 (pv 8)) (ra_nil)))) (ra_nil)))))) (rss_one (rs_ret (re_bl))) (rss_nil)))) (rss_one (rs_ret (re_cmp (op_eqA hu) (rr_eq) (re_meth0 Mt_Booksteps hr (re_var 3 (pv 3))) (re_var 4 (pv 4)) (nomark _))))))))))
def nm_law : List Str := ["script", "numbers", "cursor", "data", "book", "steps", "many", "code", "k", "due", "at", "said", "state", "row", "handed", "kind", "price", "step", "end"]
theorem sc_law : FnScope nm_law ["script"] (defScope (top 69)) := ⟨rfl, rfl, rfl, by decide +kernel, rfl, by decide +kernel, by decide +kernel⟩
theorem d_law {c_Book : Addr} {s_Book : DSp} {s_Bookis_step s__law_stream s__law_book s__law_steps s__law_book_asked s__law_take s__law_spoilt s__law_is_state s_begin_state s__law_bad s__law_deed s__law_after s_step_state s_check_code s__law_is_whole s_code_price s_run_code : DSp} (G : Gb K w mg) (I_Book : CalI P w K mg base k "Book" c_Book ["self", "width", "registers", "words", "deeds"] s_Book) (Mt_Bookis_step : CalM P w K mg base (k + 1) c_Book "is_step" ["self", "step"] s_Bookis_step) (C__law_stream : Cal P w K mg base (k + 1) "_law_stream" ["script", "many"] s__law_stream) (C__law_book : Cal P w K mg base (k + 1) "_law_book" ["numbers", "cursor"] s__law_book) (C__law_steps : Cal P w K mg base (k + 1) "_law_steps" ["data"] s__law_steps) (C__law_book_asked : Cal P w K mg base (k + 1) "_law_book_asked" ["numbers", "cursor", "data", "book", "steps"] s__law_book_asked) (C__law_take : Cal P w K mg base (k + 1) "_law_take" ["numbers", "cursor", "many"] s__law_take) (C__law_spoilt : Cal P w K mg base (k + 1) "_law_spoilt" ["numbers", "cursor", "data", "step"] s__law_spoilt) (C__law_is_state : Cal P w K mg base (k + 1) "_law_is_state" ["told", "due"] s__law_is_state) (C_begin_state : Cal P w K mg base (k + 1) "begin_state" ["book", "row"] s_begin_state) (C__law_bad : Cal P w K mg base (k + 1) "_law_bad" ["book", "code", "state", "kind"] s__law_bad) (C__law_deed : Cal P w K mg base (k + 1) "_law_deed" ["data", "name"] s__law_deed) (C__law_after : Cal P w K mg base (k + 1) "_law_after" ["data", "step", "state"] s__law_after) (C_step_state : Cal P w K mg base (k + 1) "step_state" ["book", "step", "state"] s_step_state) (C_check_code : Cal P w K mg base (k + 1) "check_code" ["book", "code"] s_check_code) (C__law_is_whole : Cal P w K mg base (k + 1) "_law_is_whole" ["told", "due"] s__law_is_whole) (C_code_price : Cal P w K mg base (k + 1) "code_price" ["book", "code"] s_code_price) (C_run_code : Cal P w K mg base (k + 1) "run_code" ["book", "code", "state"] s_run_code) {f : Addr} {fd : FuncData} (F : FunD K "law" "law" (defArgs (top 69)) (defBody (top 69)) (defScope (top 69)) [] [] f fd) {sp : DSp} (len : ∀ ds M Q E, sp ds M Q E → ds.length = 1)
    (hq : ∀ ds M Q E, sp ds M Q E → b_law_v4 c_Book s_Book s_Bookis_step s__law_stream s__law_book s__law_steps s__law_book_asked s__law_take s__law_spoilt s__law_is_state s_begin_state s__law_bad s__law_deed s__law_after s_step_state s_check_code s__law_is_whole s_code_price s_run_code { nx := fun _ M' => Q .non M', rt := Q } (startD 19 ds) M) : FnOk P w K mg base CX0 ((k + 1) + 1) f fd ["script"] (spD K w sp) := by
  refine fn_ok (N := nm_law) F sc_law len (fun cdv A outer s H E hr => ?_) hq
  have hu := hu66 hr
  have hu1 := hu_of hr
  exact rss_cons (rs_set (i := 1) sc_law.nd rfl (by first | exact .inl rfl | exact .inr rfl) (re_cal C__law_stream hr (ra_cons (re_var 0 (pv 0)) (ra_cons (re_int) (ra_nil))))) (rss_cons (rs_set (i := 2) sc_law.nd rfl (by first | exact .inl rfl | exact .inr rfl) (re_lst (ra_cons (re_int) (ra_nil)))) (rss_cons (rs_set (i := 3) sc_law.nd rfl (by first | exact .inl rfl | exact .inr rfl) (re_cal C__law_book hr (ra_cons (re_var 1 (pv 1)) (ra_cons (re_var 2 (pv 2)) (ra_nil))))) (rss_cons (rs_set (i := 4) sc_law.nd rfl (by first | exact .inl rfl | exact .inr rfl) (re_make I_Book hr (ra_cons (re_ix (ix_all hu1) rr_ix (re_var 3 (pv 3)) (re_int) (fun _ _ => rfl)) (ra_cons (re_ix (ix_all hu1) rr_ix (re_var 3 (pv 3)) (re_int) (fun _ _ => rfl)) (ra_cons (re_callTy rl_list call_list_of rfl G.list (by decide +kernel) (ra_cons (re_ix (ix_all hu1) rr_ix (re_var 3 (pv 3)) (re_int) (fun _ _ => rfl)) (ra_nil))) (ra_cons (re_callTy rl_list call_list_of rfl G.list (by decide +kernel) (ra_cons (re_ix (ix_all hu1) rr_ix (re_var 3 (pv 3)) (re_int) (fun _ _ => rfl)) (ra_nil))) (ra_nil))))))) (rss_cons (rs_set (i := 5) sc_law.nd rfl (by first | exact .inl rfl | exact .inr rfl) (re_cal C__law_steps hr (ra_cons (re_var 3 (pv 3)) (ra_nil)))) (rss_cons (rs_if (rt_not (rt_val (re_cal C__law_book_asked hr (ra_cons (re_var 1 (pv 1)) (ra_cons (re_var 2 (pv 2)) (ra_cons (re_var 3 (pv 3)) (ra_cons (re_var 4 (pv 4)) (ra_cons (re_var 5 (pv 5)) (ra_nil))))))))) (rss_one (rs_ret (re_bl))) (rss_nil)) (rss_cons (rs_set (i := 6) sc_law.nd rfl (by first | exact .inl rfl | exact .inr rfl) (re_cal C__law_take hr (ra_cons (re_var 1 (pv 1)) (ra_cons (re_var 2 (pv 2)) (ra_cons (re_int) (ra_nil)))))) (rss_cons (rs_if (rt_cmp (op_eqA hu) (rr_eq) (re_cal C__law_take hr (ra_cons (re_var 1 (pv 1)) (ra_cons (re_var 2 (pv 2)) (ra_cons (re_int) (ra_nil))))) (re_int) (nomark _)) (rss_one (rs_set (i := 6) sc_law.nd rfl (by first | exact .inl rfl | exact .inr rfl) (re_add (re_int) (re_cal C__law_take hr (ra_cons (re_var 1 (pv 1)) (ra_cons (re_var 2 (pv 2)) (ra_cons (re_int) (ra_nil)))))))) (rss_nil)) (rss_cons (rs_set (i := 7) sc_law.nd rfl (by first | exact .inl rfl | exact .inr rfl) (re_lst (ra_nil))) (rss_cons (rs_for PassesOwn.never rfl (ri_rng1 rfl G.range (ra_cons (re_var 6 (pv 6)) (ra_nil))) (ptg_name (pg_name (i := 8) sc_law.nd rfl (by first | exact .inl rfl | exact .inr rfl))) (rss_one (rs_if (rt_cmp (op_gt) (rr_gt) (re_callB rl_len call_lenA rfl G.len (by decide +kernel) (ra_cons (re_var 5 (pv 5)) (ra_nil))) (re_int) (nomark _)) (rss_one (rs_expr (re_append (re_var 7 (pv 7)) (re_ix (ix_all hu1) rr_ix (re_var 5 (pv 5)) (re_mod (re_add (re_mul (re_cal C__law_take hr (ra_cons (re_var 1 (pv 1)) (ra_cons (re_var 2 (pv 2)) (ra_cons (re_int) (ra_nil))))) (re_int)) (re_cal C__law_take hr (ra_cons (re_var 1 (pv 1)) (ra_cons (re_var 2 (pv 2)) (ra_cons (re_int) (ra_nil)))))) (re_callB rl_len call_lenA rfl G.len (by decide +kernel) (ra_cons (re_var 5 (pv 5)) (ra_nil)))) (fun _ _ => rfl))))) (rss_nil)))) (rss_cons (rs_set (i := 9) sc_law.nd rfl (by first | exact .inl rfl | exact .inr rfl) (re_neg (re_int))) (rss_cons (rs_if (rt_cmp (op_gt) (rr_gt) (re_callB rl_len call_lenA rfl G.len (by decide +kernel) (ra_cons (re_var 7 (pv 7)) (ra_nil))) (re_int) (nomark _)) (rss_one (rs_set (i := 9) sc_law.nd rfl (by first | exact .inl rfl | exact .inr rfl) (re_int))) (rss_nil)) (rss_cons (rs_if (PW.pt (rw_and (rt_cmp (op_gt) (rr_gt) (re_callB rl_len call_lenA rfl G.len (by decide +kernel) (ra_cons (re_var 7 (pv 7)) (ra_nil))) (re_int) (nomark _)) (rw_and1 (rt_cmp (op_eqA hu) (rr_eq) (re_cal C__law_take hr (ra_cons (re_var 1 (pv 1)) (ra_cons (re_var 2 (pv 2)) (ra_cons (re_int) (ra_nil))))) (re_int) (nomark _))))) (rss_cons (rs_set (i := 10) sc_law.nd rfl (by first | exact .inl rfl | exact .inr rfl) (re_mod (re_cal C__law_take hr (ra_cons (re_var 1 (pv 1)) (ra_cons (re_var 2 (pv 2)) (ra_cons (re_int) (ra_nil))))) (re_callB rl_len call_lenA rfl G.len (by decide +kernel) (ra_cons (re_var 7 (pv 7)) (ra_nil))))) (rss_cons (rs_set (i := 11) sc_law.nd rfl (by first | exact .inl rfl | exact .inr rfl) (re_meth Mt_Bookis_step hr (re_var 4 (pv 4)) (ra_cons (re_ix (ix_all hu1) rr_ix (re_var 7 (pv 7)) (re_var 10 (pv 10)) (fun _ _ => rfl)) (ra_nil)))) (rss_cons (rs_setIx hu1 (re_var 7 (pv 7)) (re_var 10 (pv 10)) (re_cal C__law_spoilt hr (ra_cons (re_var 1 (pv 1)) (ra_cons (re_var 2 (pv 2)) (ra_cons (re_var 3 (pv 3)) (ra_cons (re_ix (ix_all hu1) rr_ix (re_var 7 (pv 7)) (re_var 10 (pv 10)) (fun _ _ => rfl)) (ra_nil))))))) (rss_cons (rs_if (PW.pt (rw_or (rt_cmp (op_isnotA) (rr_is (neg := true)) (re_var 11 (pv 11)) (re_bl) (nomark _)) (rw_or1 (rt_cmp (op_isnotA) (rr_is (neg := true)) (re_meth Mt_Bookis_step hr (re_var 4 (pv 4)) (ra_cons (re_ix (ix_all hu1) rr_ix (re_var 7 (pv 7)) (re_var 10 (pv 10)) (fun _ _ => rfl)) (ra_nil))) (re_bl) (nomark _))))) (rss_one (rs_ret (re_bl))) (rss_nil)) (rss_one (rs_set (i := 9) sc_law.nd rfl (by first | exact .inl rfl | exact .inr rfl) (re_callB rl_min2 (call_min2 rfl) rfl G.min (by decide +kernel) (ra_cons (re_var 10 (pv 10)) (ra_cons (re_int) (ra_nil)))))))))) (rss_nil)) (rss_cons (rs_set (i := 12) sc_law.nd rfl (by first | exact .inl rfl | exact .inr rfl) (re_callTy rl_tuple call_tuple_of rfl G.tuple (by decide +kernel) (ra_cons (re_lc (own := [("k", 8)]) rfl sc_law.nd (ri_rng1 rfl G.range (ra_cons (re_ix (ix_all hu1) rr_ix (re_var 3 (pv 3)) (re_int) (fun _ _ => rfl)) (ra_nil))) (blkOk_by (own := [("k", 8)]) (N := nm_law) (sc := defScope (top 69)) (by decide +kernel)) (by decide) (fun _ _ _ _ _ => (ptg_name (pg_name (i := 8) sc_law.nd rfl (by first | exact .inl rfl | exact .inr rfl)))) (fun _ _ _ _ _ => rts_nil) (fun _ _ _ _ _ => re_cal C__law_take hr (ra_cons (re_var 1 (pv 1)) (ra_cons (re_var 2 (pv 2)) (ra_cons (re_shl (re_int) (re_ix (ix_all hu1) rr_ix (re_var 3 (pv 3)) (re_int) (fun _ _ => rfl))) (ra_nil)))))) (ra_nil)))) (rss_cons (rs_set (i := 13) sc_law.nd rfl (by first | exact .inl rfl | exact .inr rfl) (re_slice (re_var 12 (pv 12)) ro_none (ro_some (re_cal C__law_take hr (ra_cons (re_var 1 (pv 1)) (ra_cons (re_var 2 (pv 2)) (ra_cons (re_add (re_ix (ix_all hu1) rr_ix (re_var 3 (pv 3)) (re_int) (fun _ _ => rfl)) (re_int)) (ra_nil)))))))) (rss_cons (rs_if (rt_not (rt_val (re_cal C__law_is_state hr (ra_cons (re_cal C_begin_state hr (ra_cons (re_var 4 (pv 4)) (ra_cons (re_var 13 (pv 13)) (ra_nil)))) (ra_cons (re_add (re_var 13 (pv 13)) (re_callTy rl_tuple call_tuple_of rfl G.tuple (by decide +kernel) (ra_cons (re_lc (own := [("k", 8)]) rfl sc_law.nd (ri_rng1 rfl G.range (ra_cons (re_sub (re_ix (ix_all hu1) rr_ix (re_var 3 (pv 3)) (re_int) (fun _ _ => rfl)) (re_callB rl_len call_lenA rfl G.len (by decide +kernel) (ra_cons (re_var 13 (pv 13)) (ra_nil)))) (ra_nil))) (blkOk_by (own := [("k", 8)]) (N := nm_law) (sc := defScope (top 69)) (by decide +kernel)) (by decide) (fun _ _ _ _ _ => (ptg_name (pg_name (i := 8) sc_law.nd rfl (by first | exact .inl rfl | exact .inr rfl)))) (fun _ _ _ _ _ => rts_nil) (fun _ _ _ _ _ => re_int)) (ra_nil)))) (ra_nil)))))) (rss_one (rs_ret (re_bl))) (rss_nil)) (rss_cons (rs_set (i := 14) sc_law.nd rfl (by first | exact .inl rfl | exact .inr rfl) (re_callTy rl_list call_list_of rfl G.list (by decide +kernel) (ra_cons (re_var 7 (pv 7)) (ra_nil)))) (rss_cons (rs_for PassesOwn.never rfl (ri_rng1 rfl G.range (ra_cons (re_int) (ra_nil))) (ptg_name (pg_name (i := 15) sc_law.nd rfl (by first | exact .inl rfl | exact .inr rfl))) (rss_one (rs_if (rt_cmp (op_neA hu) (rr_ne) (re_cal C__law_bad hr (ra_cons (re_var 4 (pv 4)) (ra_cons (re_var 14 (pv 14)) (ra_cons (re_var 12 (pv 12)) (ra_cons (re_var 15 (pv 15)) (ra_nil)))))) (re_var 9 (pv 9)) (nomark _)) (rss_one (rs_ret (re_bl))) (rss_nil)))) (rss_cons (rs_if (PW.pt (rw_or (rt_cmp (op_neA hu) (rr_ne) (re_var 14 (pv 14)) (re_var 7 (pv 7)) (nomark _)) (rw_or1 (rt_cmp (op_ge) (rr_ge) (re_var 9 (pv 9)) (re_int) (nomark _))))) (rss_one (rs_ret (re_cmp (op_eqA hu) (rr_eq) (re_var 14 (pv 14)) (re_var 7 (pv 7)) (nomark _)))) (rss_nil)) (rss_cons (rs_set (i := 16) sc_law.nd rfl (by first | exact .inl rfl | exact .inr rfl) (re_callB rl_sumL (cr_sum rfl) rfl G.sum (by decide +kernel) (ra_cons (re_lc (own := [("step", 17)]) rfl sc_law.nd (ri_val (re_var 7 (pv 7))) (blkOk_by (own := [("step", 17)]) (N := nm_law) (sc := defScope (top 69)) (by decide +kernel)) (by decide) (fun _ _ _ _ _ => (ptg_name (pg_name (i := 17) sc_law.nd rfl (by first | exact .inl rfl | exact .inr rfl)))) (fun _ _ _ _ _ => rts_nil) (fun _ _ _ _ _ => re_ix (ix_all hu1) rr_ix (re_cal C__law_deed hr (ra_cons (re_var 3 (pv 3)) (ra_cons (re_ix (ix_all hu1) rr_ix (re_var 17 (pv 17)) (re_int) (fun _ _ => rfl)) (ra_nil)))) (re_int) (fun _ _ => rfl))) (ra_nil)))) (rss_cons (rs_set (i := 18) sc_law.nd rfl (by first | exact .inl rfl | exact .inr rfl) (re_var 12 (pv 12))) (rss_cons (rs_for PassesOwn.never rfl (ri_rng1 rfl G.range (ra_cons (re_callB rl_len call_lenA rfl G.len (by decide +kernel) (ra_cons (re_var 7 (pv 7)) (ra_nil))) (ra_nil))) (ptg_name (pg_name (i := 8) sc_law.nd rfl (by first | exact .inl rfl | exact .inr rfl))) (rss_cons (rs_set (i := 18) sc_law.nd rfl (by first | exact .inl rfl | exact .inr rfl) (re_cal C__law_after hr (ra_cons (re_var 3 (pv 3)) (ra_cons (re_ix (ix_all hu1) rr_ix (re_var 7 (pv 7)) (re_var 8 (pv 8)) (fun _ _ => rfl)) (ra_cons (re_var 18 (pv 18)) (ra_nil)))))) (rss_one (rs_if (PW.pt (rw_and (rt_cmp (op_eqA hu) (rr_eq) (re_var 8 (pv 8)) (re_int) (nomark _)) (rw_and1 (rt_not (rt_val (re_cal C__law_is_state hr (ra_cons (re_cal C_step_state hr (ra_cons (re_var 4 (pv 4)) (ra_cons (re_ix (ix_all hu1) rr_ix (re_var 7 (pv 7)) (re_int) (fun _ _ => rfl)) (ra_cons (re_var 12 (pv 12)) (ra_nil))))) (ra_cons (re_var 18 (pv 18)) (ra_nil))))))))) (rss_one (rs_ret (re_bl))) (rss_nil))))) (rss_cons (rs_if (PW.pt (rw_or (rt_cmp (op_isnotA) (rr_is (neg := true)) (re_cal C_check_code hr (ra_cons (re_var 4 (pv 4)) (ra_cons (re_var 14 (pv 14)) (ra_nil)))) (re_non) (nomark _)) (rw_or1 (rt_not (rt_val (re_cal C__law_is_whole hr (ra_cons (re_cal C_code_price hr (ra_cons (re_var 4 (pv 4)) (ra_cons (re_var 14 (pv 14)) (ra_nil)))) (ra_cons (re_var 16 (pv 16)) (ra_nil))))))))) (rss_one (rs_ret (re_bl))) (rss_nil)) (rss_one (rs_ret (re_cal C__law_is_state hr (ra_cons (re_cal C_run_code hr (ra_cons (re_var 4 (pv 4)) (ra_cons (re_var 14 (pv 14)) (ra_cons (re_var 12 (pv 12)) (ra_nil))))) (ra_cons (re_var 18 (pv 18)) (ra_nil))))))))))))))))))))))))))))
def nm_Book__init__ : List Str := ["self", "width", "registers", "words", "deeds", "name", "price", "formula", "line"]
theorem sc_Book__init__ : FnScope nm_Book__init__ ["self", "width", "registers", "words", "deeds"] (defScope (met 38 0)) := ⟨rfl, rfl, rfl, by decide +kernel, rfl, by decide +kernel, by decide +kernel⟩
theorem d_Book__init__ {cl : CF} {s_first_bad_line : DSp} (G : Gb K w mg) (hcl : CfOk K cl) (C_first_bad_line : Cal P w K mg base k "first_bad_line" ["book"] s_first_bad_line) {C f : Addr} {fd : FuncData} (F : FunD K "__init__" "Book.__init__" (defArgs (met 38 0)) (defBody (met 38 0)) (defScope (met 38 0)) [] [] f fd) (M0 : Mk K C f) (hm : mg "Book" = some (.ref C)) {sp : DSp} (len : ∀ ds M Q E, sp ds M Q E → ds.length = 5)
    (hq : ∀ ds M Q E, sp ds M Q E → b_Book__init__ cl s_first_bad_line { nx := fun _ M' => Q .non M', rt := Q } (startD 9 ds) M) : CalI P w K mg base (k + 1) "Book" C ["self", "width", "registers", "words", "deeds"] sp := by
  refine cali_mk (N := nm_Book__init__) F M0 hm sc_Book__init__ (fun _ _ _ _ _ _ us hl => match us, hl with | [_, _, _, _, _], _ => rfl) (fun cdv A outer s H E hr => ?_) len hq
  have hu := hu66 hr
  have hu1 := hu_of hr
  exact rss_cons (rs_setFld hcl (re_var 0 (pv 0)) (re_var 1 (pv 1))) (rss_cons (rs_setFld hcl (re_var 0 (pv 0)) (re_var 2 (pv 2))) (rss_cons (rs_setFld hcl (re_var 0 (pv 0)) (re_callTy rl_tuple call_tuple_of rfl G.tuple (by decide +kernel) (ra_cons (re_var 3 (pv 3)) (ra_nil)))) (rss_cons (rs_setFld hcl (re_var 0 (pv 0)) (re_callTy rl_tuple call_tuple_of rfl G.tuple (by decide +kernel) (ra_cons (re_lc (tG := gTup K 3 (gNames [5, 6, 7])) (own := [("name", 5), ("price", 6), ("formula", 7)]) rfl sc_Book__init__.nd (ri_val (re_var 4 (pv 4))) (blkOk_by (own := [("name", 5), ("price", 6), ("formula", 7)]) (N := nm_Book__init__) (sc := defScope (met 38 0)) (by decide +kernel)) (by decide) (fun _ _ _ _ _ => (ptg_tup (is := [5, 6, 7]) rfl (pgs_cons (pg_name (i := 5) sc_Book__init__.nd rfl (by first | exact .inl rfl | exact .inr rfl)) (pgs_cons (pg_name (i := 6) sc_Book__init__.nd rfl (by first | exact .inl rfl | exact .inr rfl)) (pgs_cons (pg_name (i := 7) sc_Book__init__.nd rfl (by first | exact .inl rfl | exact .inr rfl)) (pgs_nil)))) rfl)) (fun _ _ _ _ _ => rts_nil) (fun _ _ _ _ _ => re_tup (ra_cons (re_var 5 (pv 5)) (ra_cons (re_var 6 (pv 6)) (ra_cons (re_var 7 (pv 7)) (ra_nil)))))) (ra_nil)))) (rss_cons (rs_set (i := 8) sc_Book__init__.nd rfl (by first | exact .inl rfl | exact .inr rfl) (re_cal C_first_bad_line hr (ra_cons (re_var 0 (pv 0)) (ra_nil)))) (rss_one (rs_if (rt_cmp (op_gt) (rr_gt) (re_var 8 (pv 8)) (re_int) (nomark _)) (rss_one (rs_never)) (rss_nil)))))))
def nm_Bookdeed : List Str := ["self", "name", "row"]
theorem sc_Bookdeed : FnScope nm_Bookdeed ["self", "name"] (defScope (met 38 1)) := ⟨rfl, rfl, rfl, by decide +kernel, rfl, by decide +kernel, by decide +kernel⟩
theorem d_Bookdeed {cl : CF} (G : Gb K w mg) (hcl : CfOk K cl) {C f : Addr} {fd : FuncData} (F : FunD K "deed" "Book.deed" (defArgs (met 38 1)) (defBody (met 38 1)) (defScope (met 38 1)) [] [] f fd) (cC : Cls K C) (cM : Meth K C "deed" f) {sp : DSp} (len : ∀ ds M Q E, sp ds M Q E → ds.length = 2)
    (hq : ∀ ds M Q E, sp ds M Q E → b_Bookdeed cl { nx := fun _ M' => Q .non M', rt := Q } (startD 3 ds) M) : CalM P w K mg base (k + 1) C "deed" ["self", "name"] sp := by
  refine calm_mk (N := nm_Bookdeed) F cC cM sc_Bookdeed (fun _ _ _ _ _ _ us hl => match us, hl with | [_, _], _ => rfl) (fun cdv A outer s H E hr => ?_) len hq
  have hu := hu66 hr
  have hu1 := hu_of hr
  exact rss_cons (rs_for PassesOwn.never rfl (ri_val (re_fld hcl (re_var 0 (pv 0)))) (ptg_name (pg_name (i := 2) sc_Bookdeed.nd rfl (by first | exact .inl rfl | exact .inr rfl))) (rss_one (rs_if (rt_cmp (op_eqA hu) (rr_eq) (re_ix (ix_all hu1) rr_ix (re_var 2 (pv 2)) (re_int) (fun _ _ => rfl)) (re_var 1 (pv 1)) (nomark _)) (rss_one (rs_ret (re_var 2 (pv 2)))) (rss_nil)))) (rss_one (rs_never))
theorem d_BookdeedX {cl : CF} {c_NoName : Addr} (G : Gb K w mg) (hcl : CfOk K cl) (M_NoName : mg "NoName" = some (.ref c_NoName)) (E_NoName : CalE P w K mg base k "NoName" c_NoName "name" okStr) {C f : Addr} {fd : FuncData} (F : FunD K "deed" "Book.deed" (defArgs (met 38 1)) (defBody (met 38 1)) (defScope (met 38 1)) [] [] f fd) (cC : Cls K C) (cM : Meth K C "deed" f) {sp : DSp} (len : ∀ ds M Q E, sp ds M Q E → ds.length = 2)
    (hq : ∀ ds M Q E, sp ds M Q E → b_Bookdeed_x cl c_NoName { nx := fun _ M' => Q .non M', rt := Q, xc := fun cls d _ M' => E cls d M' } (startD 3 ds) M) : CalMX P w K mg base ((k + 1) + 1) C "deed" ["self", "name"] sp := by
  refine calmx_mk (N := nm_Bookdeed) F cC cM sc_Bookdeed (fun _ _ _ _ _ _ us hl => match us, hl with | [_, _], _ => rfl) (fun cdv A outer s H E hr => ?_) len hq
  have hu := hu66 hr
  have hu1 := hu_of hr
  exact rss_cons (rs_for (passes_of rfl) rfl (ri_val (re_fld hcl (re_var 0 (pv 0)))) (ptg_name (pg_name (i := 2) sc_Bookdeed.nd rfl (by first | exact .inl rfl | exact .inr rfl))) (rss_one (rs_if (rt_cmp (op_eqA hu) (rr_eq) (re_ix (ix_all hu1) rr_ix (re_var 2 (pv 2)) (re_int) (fun _ _ => rfl)) (re_var 1 (pv 1)) (nomark _)) (rss_one (rs_ret (re_var 2 (pv 2)))) (rss_nil)))) (rss_one (rs_raise E_NoName hr okStr_rep rfl (re_var 1 (pv 1))))
def nm_Bookis_step : List Str := ["self", "step", "name", "sources", "word", "target", "row", "source"]
theorem sc_Bookis_step : FnScope nm_Bookis_step ["self", "step"] (defScope (met 38 2)) := ⟨rfl, rfl, rfl, by decide +kernel, rfl, by decide +kernel, by decide +kernel⟩
theorem d_Bookis_step {cl : CF} {s_source_count s_takes_word : DSp} (G : Gb K w mg) (hcl : CfOk K cl) (C_source_count : Cal P w K mg base k "source_count" ["formula"] s_source_count) (C_takes_word : Cal P w K mg base k "takes_word" ["formula"] s_takes_word) {C f : Addr} {fd : FuncData} (F : FunD K "is_step" "Book.is_step" (defArgs (met 38 2)) (defBody (met 38 2)) (defScope (met 38 2)) [] [] f fd) (cC : Cls K C) (cM : Meth K C "is_step" f) {sp : DSp} (len : ∀ ds M Q E, sp ds M Q E → ds.length = 2)
    (hq : ∀ ds M Q E, sp ds M Q E → b_Bookis_step cl s_source_count s_takes_word { nx := fun _ M' => Q .non M', rt := Q } (startD 8 ds) M) : CalM P w K mg base (k + 1) C "is_step" ["self", "step"] sp := by
  refine calm_mk (N := nm_Bookis_step) F cC cM sc_Bookis_step (fun _ _ _ _ _ _ us hl => match us, hl with | [_, _], _ => rfl) (fun cdv A outer s H E hr => ?_) len hq
  have hu := hu66 hr
  have hu1 := hu_of hr
  exact rss_cons (rs_asg (re_var 1 (pv 1)) (ptg_tup (is := [2, 3, 4, 5]) rfl (pgs_cons (pg_name (i := 2) sc_Bookis_step.nd rfl (by first | exact .inl rfl | exact .inr rfl)) (pgs_cons (pg_name (i := 3) sc_Bookis_step.nd rfl (by first | exact .inl rfl | exact .inr rfl)) (pgs_cons (pg_name (i := 4) sc_Bookis_step.nd rfl (by first | exact .inl rfl | exact .inr rfl)) (pgs_cons (pg_name (i := 5) sc_Bookis_step.nd rfl (by first | exact .inl rfl | exact .inr rfl)) (pgs_nil))))) rfl)) (rss_cons (rs_for PassesOwn.never rfl (ri_val (re_fld hcl (re_var 0 (pv 0)))) (ptg_name (pg_name (i := 6) sc_Bookis_step.nd rfl (by first | exact .inl rfl | exact .inr rfl))) (rss_one (rs_if (rt_cmp (op_eqA hu) (rr_eq) (re_ix (ix_all hu1) rr_ix (re_var 6 (pv 6)) (re_int) (fun _ _ => rfl)) (re_var 2 (pv 2)) (nomark _)) (rss_cons (rs_if (PW.pt (rw_or (rt_cmp (op_neA hu) (rr_ne) (re_callB rl_len call_lenA rfl G.len (by decide +kernel) (ra_cons (re_var 3 (pv 3)) (ra_nil))) (re_cal C_source_count hr (ra_cons (re_ix (ix_all hu1) rr_ix (re_var 6 (pv 6)) (re_int) (fun _ _ => rfl)) (ra_nil))) (nomark _)) (rw_or1 (rt_not (rt_chain (op_le) (rr_le) (op_lt) (rr_lt) (re_int) (re_var 5 (pv 5)) (re_fld hcl (re_var 0 (pv 0)))))))) (rss_one (rs_ret (re_bl))) (rss_nil)) (rss_cons (rs_if (PW.pt (rw_or (rt_cmp (op_neA hu) (rr_ne) (re_cal C_takes_word hr (ra_cons (re_ix (ix_all hu1) rr_ix (re_var 6 (pv 6)) (re_int) (fun _ _ => rfl)) (ra_nil))) (re_cmp (op_isnotA) (rr_is (neg := true)) (re_var 4 (pv 4)) (re_non) (nomark _)) (nomark _)) (rw_or1 (PW.pt (rw_and (rt_cmp (op_isnotA) (rr_is (neg := true)) (re_var 4 (pv 4)) (re_non) (nomark _)) (rw_and1 (rt_cmp (op_notInA hu1) (rr_in (neg := true)) (re_var 4 (pv 4)) (re_fld hcl (re_var 0 (pv 0))) rfl))))))) (rss_one (rs_ret (re_bl))) (rss_nil)) (rss_one (rs_ret (re_callB rl_all (cr_all rfl) rfl G.all (by decide +kernel) (ra_cons (re_lc (own := [("source", 7)]) rfl sc_Bookis_step.nd (ri_val (re_var 3 (pv 3))) (blkOk_by (own := [("source", 7)]) (N := nm_Bookis_step) (sc := defScope (met 38 2)) (by decide +kernel)) (by decide) (fun _ _ _ _ _ => (ptg_name (pg_name (i := 7) sc_Bookis_step.nd rfl (by first | exact .inl rfl | exact .inr rfl)))) (fun _ _ _ _ _ => rts_nil) (fun _ _ _ _ _ => re_chain (op_le) (rr_le) (op_lt) (rr_lt) (re_int) (re_var 7 (pv 7)) (re_fld hcl (re_var 0 (pv 0))))) (ra_nil))))))) (rss_nil)))) (rss_one (rs_ret (re_bl))))
def nm_Booksteps : List Str := ["self", "found", "name", "price", "formula", "words", "sources", "word", "target"]
theorem sc_Booksteps : FnScope nm_Booksteps ["self"] (defScope (met 38 3)) := ⟨rfl, rfl, rfl, by decide +kernel, rfl, by decide +kernel, by decide +kernel⟩
theorem d_Booksteps {cl : CF} {s_takes_word s_source_rows s_source_count : DSp} (G : Gb K w mg) (hcl : CfOk K cl) (C_takes_word : Cal P w K mg base k "takes_word" ["formula"] s_takes_word) (C_source_rows : Cal P w K mg base k "source_rows" ["registers", "many"] s_source_rows) (C_source_count : Cal P w K mg base k "source_count" ["formula"] s_source_count) {C f : Addr} {fd : FuncData} (F : FunD K "steps" "Book.steps" (defArgs (met 38 3)) (defBody (met 38 3)) (defScope (met 38 3)) [] [] f fd) (cC : Cls K C) (cM : Meth K C "steps" f) {sp : DSp} (len : ∀ ds M Q E, sp ds M Q E → ds.length = 1)
    (hq : ∀ ds M Q E, sp ds M Q E → b_Booksteps cl s_takes_word s_source_rows s_source_count { nx := fun _ M' => Q .non M', rt := Q } (startD 9 ds) M) : CalM P w K mg base (k + 1) C "steps" ["self"] sp := by
  refine calm_mk (N := nm_Booksteps) F cC cM sc_Booksteps (fun _ _ _ _ _ _ us hl => match us, hl with | [_], _ => rfl) (fun cdv A outer s H E hr => ?_) len hq
  have hu := hu66 hr
  have hu1 := hu_of hr
  exact rss_cons (rs_set (i := 1) sc_Booksteps.nd rfl (by first | exact .inl rfl | exact .inr rfl) (re_lst (ra_nil))) (rss_cons (rs_for PassesOwn.never rfl (ri_val (re_fld hcl (re_var 0 (pv 0)))) (ptg_tup (is := [2, 3, 4]) rfl (pgs_cons (pg_name (i := 2) sc_Booksteps.nd rfl (by first | exact .inl rfl | exact .inr rfl)) (pgs_cons (pg_name (i := 3) sc_Booksteps.nd rfl (by first | exact .inl rfl | exact .inr rfl)) (pgs_cons (pg_name (i := 4) sc_Booksteps.nd rfl (by first | exact .inl rfl | exact .inr rfl)) (pgs_nil)))) rfl) (rss_cons (rs_set (i := 5) sc_Booksteps.nd rfl (by first | exact .inl rfl | exact .inr rfl) (re_lst (ra_cons (re_non) (ra_nil)))) (rss_cons (rs_if (rt_val (re_cal C_takes_word hr (ra_cons (re_var 4 (pv 4)) (ra_nil)))) (rss_one (rs_set (i := 5) sc_Booksteps.nd rfl (by first | exact .inl rfl | exact .inr rfl) (re_callTy rl_list call_list_of rfl G.list (by decide +kernel) (ra_cons (re_fld hcl (re_var 0 (pv 0))) (ra_nil))))) (rss_nil)) (rss_one (rs_for PassesOwn.never rfl (ri_val (re_cal C_source_rows hr (ra_cons (re_fld hcl (re_var 0 (pv 0))) (ra_cons (re_cal C_source_count hr (ra_cons (re_var 4 (pv 4)) (ra_nil))) (ra_nil))))) (ptg_name (pg_name (i := 6) sc_Booksteps.nd rfl (by first | exact .inl rfl | exact .inr rfl))) (rss_one (rs_for PassesOwn.never rfl (ri_val (re_var 5 (pv 5))) (ptg_name (pg_name (i := 7) sc_Booksteps.nd rfl (by first | exact .inl rfl | exact .inr rfl))) (rss_one (rs_for PassesOwn.never rfl (ri_rng1 rfl G.range (ra_cons (re_fld hcl (re_var 0 (pv 0))) (ra_nil))) (ptg_name (pg_name (i := 8) sc_Booksteps.nd rfl (by first | exact .inl rfl | exact .inr rfl))) (rss_one (rs_expr (re_append (re_var 1 (pv 1)) (re_tup (ra_cons (re_var 2 (pv 2)) (ra_cons (re_var 6 (pv 6)) (ra_cons (re_var 7 (pv 7)) (ra_cons (re_var 8 (pv 8)) (ra_nil)))))))))))))))))) (rss_one (rs_ret (re_var 1 (pv 1)))))
def nm_Bookcodes_within : List Str := ["self", "most", "counts", "total", "many", "name", "price", "formula"]
theorem sc_Bookcodes_within : FnScope nm_Bookcodes_within ["self", "most"] (defScope (met 38 4)) := ⟨rfl, rfl, rfl, by decide +kernel, rfl, by decide +kernel, by decide +kernel⟩
theorem d_Bookcodes_within {cl : CF} {s_step_count : DSp} (G : Gb K w mg) (hcl : CfOk K cl) (C_step_count : Cal P w K mg base k "step_count" ["book", "formula"] s_step_count) {C f : Addr} {fd : FuncData} (F : FunD K "codes_within" "Book.codes_within" (defArgs (met 38 4)) (defBody (met 38 4)) (defScope (met 38 4)) [] [] f fd) (cC : Cls K C) (cM : Meth K C "codes_within" f) {sp : DSp} (len : ∀ ds M Q E, sp ds M Q E → ds.length = 2)
    (hq : ∀ ds M Q E, sp ds M Q E → b_Bookcodes_within cl s_step_count { nx := fun _ M' => Q .non M', rt := Q } (startD 8 ds) M) : CalM P w K mg base (k + 1) C "codes_within" ["self", "most"] sp := by
  refine calm_mk (N := nm_Bookcodes_within) F cC cM sc_Bookcodes_within (fun _ _ _ _ _ _ us hl => match us, hl with | [_, _], _ => rfl) (fun cdv A outer s H E hr => ?_) len hq
  have hu := hu66 hr
  have hu1 := hu_of hr
  exact rss_cons (rs_set (i := 2) sc_Bookcodes_within.nd rfl (by first | exact .inl rfl | exact .inr rfl) (re_lst (ra_cons (re_int) (ra_nil)))) (rss_cons (rs_for PassesOwn.never rfl (ri_rng2 rfl G.range (ra_cons (re_int) (ra_cons (re_add (re_var 1 (pv 1)) (re_int)) (ra_nil)))) (ptg_name (pg_name (i := 3) sc_Bookcodes_within.nd rfl (by first | exact .inl rfl | exact .inr rfl))) (rss_cons (rs_set (i := 4) sc_Bookcodes_within.nd rfl (by first | exact .inl rfl | exact .inr rfl) (re_int)) (rss_cons (rs_for PassesOwn.never rfl (ri_val (re_fld hcl (re_var 0 (pv 0)))) (ptg_tup (is := [5, 6, 7]) rfl (pgs_cons (pg_name (i := 5) sc_Bookcodes_within.nd rfl (by first | exact .inl rfl | exact .inr rfl)) (pgs_cons (pg_name (i := 6) sc_Bookcodes_within.nd rfl (by first | exact .inl rfl | exact .inr rfl)) (pgs_cons (pg_name (i := 7) sc_Bookcodes_within.nd rfl (by first | exact .inl rfl | exact .inr rfl)) (pgs_nil)))) rfl) (rss_one (rs_if (rt_cmp (op_le) (rr_le) (re_var 6 (pv 6)) (re_var 3 (pv 3)) (nomark _)) (rss_one (rs_set (i := 4) sc_Bookcodes_within.nd rfl (by first | exact .inl rfl | exact .inr rfl) (re_add (re_var 4 (pv 4)) (re_mul (re_cal C_step_count hr (ra_cons (re_var 0 (pv 0)) (ra_cons (re_var 7 (pv 7)) (ra_nil)))) (re_ix (ix_all hu1) rr_ix (re_var 2 (pv 2)) (re_sub (re_var 3 (pv 3)) (re_var 6 (pv 6))) (fun _ _ => rfl)))))) (rss_nil)))) (rss_one (rs_expr (re_append (re_var 2 (pv 2)) (re_var 4 (pv 4)))))))) (rss_one (rs_ret (re_callB rl_sumL (cr_sum rfl) rfl G.sum (by decide +kernel) (ra_cons (re_var 2 (pv 2)) (ra_nil))))))
end
end K88

set_option Elab.async false
set_option linter.all false
set_option autoImplicit false
set_option maxRecDepth 100000
set_option maxHeartbeats 4000000
/-! readings: words and operations -/
namespace Rd
open PySem PySem.Spec PyProof.Rows L2 DH Bd
theorem qi {Q : DQ} {a b : Int} {M : Mm} (h : Q (.int b) M) (e : a = b) : Q (.int a) M := by rw [e]; exact h
theorem qb {Q : DQ} {a b : Bool} {M : Mm} (h : Q (.bl b) M) (e : a = b) : Q (.bl a) M := by rw [e]; exact h
abbrev En (Q : DQ) : DEnds := { nx := fun _ M' => Q .non M', rt := Q }
/-! ### words -/
def sp_word_limit : DSp := fun ds M Q _ => ∃ w : Nat, ds = [.int w] ∧ w ≤ 1000 ∧ Q (.int ((2 ^ w : Nat) : Int)) M
theorem pow_cast (w : Nat) : (1 : Int) * 2 ^ ((w : Int).toNat) = ((2 ^ w : Nat) : Int) := by
  rw [Int.toNat_natCast, Int.one_mul]; norm_cast
theorem cpow {i : Int} (w : Nat) (hw : w ≤ 1000) (hi : i.natAbs < 2 ^ 64) : CPow i (w : Int) := ⟨by omega, by omega, hi⟩
theorem r_word_limit : ∀ ds M Q E, sp_word_limit ds M Q E → b_word_limit (En Q) (startD 1 ds) M := by
  rintro ds M Q E ⟨w, rfl, hw, h⟩
  exact ⟨cpow w hw (by decide), qi h (pow_cast w)⟩
def sgn (w : Nat) (x : Nat) : Int := if x ≥ 2 ^ w / 2 then (x : Int) - (2 ^ w : Nat) else x
def sp_signed_value : DSp := fun ds M Q _ => ∃ w x : Nat, ds = [.int w, .int x] ∧ w ≤ 1000 ∧ Q (.int (sgn w x)) M
theorem r_signed_value : ∀ ds M Q E, sp_signed_value ds M Q E → b_signed_value sp_word_limit (En Q) (startD 2 ds) M := by
  rintro ds M Q E ⟨w, x, rfl, hw, h⟩
  refine ⟨w, rfl, hw, ⟨by decide, by decide⟩, fun hb => ?_, fun hb => ?_⟩
  · have hb := of_decide_eq_true hb
    refine ⟨w, rfl, hw, ?_⟩
    refine qi h ?_
    unfold sgn
    rw [if_pos (by omega)]
  · have hb := of_decide_eq_false hb
    refine qi h ?_
    unfold sgn
    rw [if_neg (by omega)]
/-- the operations -/
inductive Op where
  | not | neg | and | or | xor | add | sub | mul | shl | shr | eq | lt | slt | pick
  deriving DecidableEq
def Op.nm : Op → Str
  | .not => "not" | .neg => "neg" | .and => "and" | .or => "or" | .xor => "xor" | .add => "add" | .sub => "sub" | .mul => "mul" | .shl => "shl" | .shr => "shr" | .eq => "eq" | .lt => "lt" | .slt => "slt" | .pick => "pick"
def Op.ar : Op → Nat
  | .not => 1 | .neg => 1 | .pick => 3 | _ => 2
def b2n (b : Bool) : Nat := if b then 1 else 0
/-- what an operation yields -/
def Op.v (w : Nat) : Op → List Nat → Nat
  | .not, [x] => 2 ^ w - 1 - x
  | .neg, [x] => (2 ^ w - x) % 2 ^ w
  | .and, [x, y] => x &&& y
  | .or, [x, y] => x ||| y
  | .xor, [x, y] => x ^^^ y
  | .add, [x, y] => (x + y) % 2 ^ w
  | .sub, [x, y] => (x + 2 ^ w - y) % 2 ^ w
  | .mul, [x, y] => x * y % 2 ^ w
  | .shl, [x, y] => x * 2 ^ y % 2 ^ w
  | .shr, [x, y] => x / 2 ^ y
  | .eq, [x, y] => b2n (x == y)
  | .lt, [x, y] => b2n (decide (x < y))
  | .slt, [x, y] => b2n (decide (sgn w x < sgn w y))
  | .pick, [x, y, z] => if x = 0 then z else y
  | _, _ => 0
def sp_operate_one : DSp := fun ds M Q _ => ∃ (o : Op) (w x : Nat), ds = [.str o.nm, .int w, .int x] ∧ o.ar = 1 ∧ 1 ≤ w ∧ w ≤ 4 ∧ x < 2 ^ w ∧ Q (.int (o.v w [x])) M
theorem sm {w x : Nat} (hw : w ≤ 4) (hx : x < 2 ^ w) : x < 16 := Nat.lt_of_lt_of_le hx (Nat.pow_le_pow_right (by decide) hw)
theorem neg_ok : ∀ w : Fin 5, ∀ x : Fin 16, x.1 < 2 ^ w.1 → Builtin.bitAnd (((2 ^ w.1 : Nat) : Int) - (x.1 : Int)) (((2 ^ w.1 : Nat) : Int) - 1) = ((Op.neg.v w.1 [x.1] : Nat) : Int) := by decide +kernel
theorem r_operate_one : ∀ ds M Q E, sp_operate_one ds M Q E → b_operate_one sp_word_limit (En Q) (startD 3 ds) M := by
  rintro ds M Q E ⟨o, w, x, rfl, ha, h1, h4, hx, h⟩
  refine ⟨fun hb => ⟨w, rfl, by omega, ?_⟩, fun hb => ⟨w, rfl, by omega, w, rfl, by omega, ?_⟩⟩
  · cases o <;> first | (exact absurd ha (by decide)) | (exact absurd hb (by decide)) | skip
    refine qi h ?_
    show ((2 ^ w : Nat) : Int) - 1 - (x : Int) = ((2 ^ w - 1 - x : Nat) : Int)
    omega
  · cases o <;> first | (exact absurd ha (by decide)) | (exact absurd hb (by decide)) | skip
    exact qi h (neg_ok ⟨w, by omega⟩ ⟨x, sm h4 hx⟩ hx)
def sp_operate_bits : DSp := fun ds M Q _ => ∃ (o : Op) (w x y : Nat), ds = [.str o.nm, .int x, .int y] ∧ (o = .and ∨ o = .or ∨ o = .xor) ∧ w ≤ 4 ∧ x < 2 ^ w ∧ y < 2 ^ w ∧ Q (.int (o.v w [x, y])) M
theorem and_ok (x y : Nat) : Builtin.bitAnd (x : Int) (y : Int) = ((x &&& y : Nat) : Int) := by
  unfold Builtin.bitAnd
  rw [show decide ((0 : Int) ≤ (x : Int)) = true from decide_eq_true (by omega), show decide ((0 : Int) ≤ (y : Int)) = true from decide_eq_true (by omega)]
  rfl
theorem or_ok : ∀ x y : Fin 16, Builtin.bitOr (x.1 : Int) (y.1 : Int) = ((x.1 ||| y.1 : Nat) : Int) := by decide +kernel
theorem xor_ok : ∀ x y : Fin 16, Builtin.bitXor (x.1 : Int) (y.1 : Int) = ((x.1 ^^^ y.1 : Nat) : Int) := by decide +kernel
theorem r_operate_bits : ∀ ds M Q E, sp_operate_bits ds M Q E → b_operate_bits (En Q) (startD 3 ds) M := by
  rintro ds M Q E ⟨o, w, x, y, rfl, ho, h4, hx, hy, h⟩
  refine ⟨fun hb => ?_, fun hb => ⟨fun hc => ?_, fun hc => ?_⟩⟩
  · rcases ho with rfl | rfl | rfl <;> first | (exact absurd hb (by decide)) | skip
    exact qi h (and_ok x y)
  · rcases ho with rfl | rfl | rfl <;> first | (exact absurd hc (by decide)) | skip
    exact qi h (or_ok ⟨x, sm h4 hx⟩ ⟨y, sm h4 hy⟩)
  · rcases ho with rfl | rfl | rfl <;> first | (exact absurd hc (by decide)) | (exact absurd hb (by decide)) | skip
    exact qi h (xor_ok ⟨x, sm h4 hx⟩ ⟨y, sm h4 hy⟩)
def sp_operate_sum : DSp := fun ds M Q _ => ∃ (o : Op) (w x y : Nat), ds = [.str o.nm, .int w, .int x, .int y] ∧ (o = .add ∨ o = .sub ∨ o = .mul ∨ o = .shl ∨ o = .shr) ∧ w ≤ 4 ∧ x < 2 ^ w ∧ y < 2 ^ w ∧ Q (.int (o.v w [x, y])) M
theorem mask_ok : ∀ w : Fin 5, ∀ x y : Fin 16, y.1 < 2 ^ w.1 → Builtin.bitAnd ((x.1 : Int) + (y.1 : Int)) (((2 ^ w.1 : Nat) : Int) - 1) = ((Op.add.v w.1 [x.1, y.1] : Nat) : Int) ∧ Builtin.bitAnd ((x.1 : Int) - (y.1 : Int)) (((2 ^ w.1 : Nat) : Int) - 1) = ((Op.sub.v w.1 [x.1, y.1] : Nat) : Int) ∧
    Builtin.bitAnd ((x.1 : Int) * (y.1 : Int)) (((2 ^ w.1 : Nat) : Int) - 1) = ((Op.mul.v w.1 [x.1, y.1] : Nat) : Int) ∧ Builtin.bitAnd ((x.1 : Int) * 2 ^ (y.1 : Int).toNat) (((2 ^ w.1 : Nat) : Int) - 1) = ((Op.shl.v w.1 [x.1, y.1] : Nat) : Int) := by decide +kernel
theorem shr_ok (x y : Nat) : (x : Int) / 2 ^ (y : Int).toNat = ((x / 2 ^ y : Nat) : Int) := by
  rw [Int.toNat_natCast]; norm_cast
theorem r_operate_sum : ∀ ds M Q E, sp_operate_sum ds M Q E → b_operate_sum sp_word_limit (En Q) (startD 5 ds) M := by
  rintro ds M Q E ⟨o, w, x, y, rfl, ho, h4, hx, hy, h⟩
  have hx6 := sm h4 hx
  have hy6 := sm h4 hy
  have g := mask_ok ⟨w, by omega⟩ ⟨x, hx6⟩ ⟨y, hy6⟩ hy
  refine ⟨w, rfl, by omega, fun ha => ?_, fun ha => ⟨fun hb => ?_, fun hb => ⟨fun hc => ⟨.inl ⟨by omega, by omega⟩, ?_⟩, fun hc => ⟨fun hd => ⟨⟨by omega, by omega, by omega⟩, ?_⟩, fun hd => ⟨by omega, ?_⟩⟩⟩⟩⟩
  · rcases ho with rfl | rfl | rfl | rfl | rfl <;> first | (exact absurd ha (by decide)) | skip
    exact qi h g.1
  · rcases ho with rfl | rfl | rfl | rfl | rfl <;> first | (exact absurd hb (by decide)) | skip
    exact qi h g.2.1
  · rcases ho with rfl | rfl | rfl | rfl | rfl <;> first | (exact absurd hc (by decide)) | skip
    exact qi h g.2.2.1
  · rcases ho with rfl | rfl | rfl | rfl | rfl <;> first | (exact absurd hd (by decide)) | skip
    exact qi h g.2.2.2
  · rcases ho with rfl | rfl | rfl | rfl | rfl <;> first | (exact absurd ha (by decide)) | (exact absurd hb (by decide)) | (exact absurd hc (by decide)) | (exact absurd hd (by decide)) | skip
    exact qi h (shr_ok x y)
def sp_operate_order : DSp := fun ds M Q _ => ∃ (o : Op) (w x y : Nat), ds = [.str o.nm, .int w, .int x, .int y] ∧ (o = .eq ∨ o = .lt ∨ o = .slt) ∧ w ≤ 4 ∧ x < 2 ^ w ∧ y < 2 ^ w ∧ Q (.int (o.v w [x, y])) M
theorem bi_ok (b c : Bool) (h : b = c) : (if b = true then (1 : Int) else 0) = ((b2n c : Nat) : Int) := by
  subst h; cases b <;> rfl
theorem r_operate_order : ∀ ds M Q E, sp_operate_order ds M Q E → b_operate_order sp_signed_value (En Q) (startD 4 ds) M := by
  rintro ds M Q E ⟨o, w, x, y, rfl, ho, h4, hx, hy, h⟩
  refine ⟨fun ha => ?_, fun ha => ⟨fun hb => ?_, fun hb => ⟨w, x, rfl, by omega, w, y, rfl, by omega, ?_⟩⟩⟩
  · rcases ho with rfl | rfl | rfl <;> first | (exact absurd ha (by decide)) | skip
    refine qi h (bi_ok _ _ ?_)
    rw [Bool.eq_iff_iff]; simp; omega
  · rcases ho with rfl | rfl | rfl <;> first | (exact absurd hb (by decide)) | skip
    refine qi h (bi_ok _ _ ?_)
    rw [Bool.eq_iff_iff]; simp
  · rcases ho with rfl | rfl | rfl <;> first | (exact absurd ha (by decide)) | (exact absurd hb (by decide)) | skip
    exact qi h (bi_ok _ _ rfl)
/-- the arguments of an operation as a list object or a tuple -/
def SeqM (M : Mm) (d : D) (ds : List D) : Prop := d = .tup ds ∨ ∃ a, d = .ref a ∧ IsL M a ds
abbrev wds (xs : List Nat) : List D := xs.map fun x : Nat => D.int (x : Int)
def sp_operate : DSp := fun ds M Q _ => ∃ (o : Op) (w : Nat) (xs : List Nat) (d : D), ds = [.str o.nm, .int w, d] ∧ SeqM M d (wds xs) ∧ xs.length = o.ar ∧ 1 ≤ w ∧ w ≤ 4 ∧ (∀ x ∈ xs, x < 2 ^ w) ∧ Q (.int (o.v w xs)) M
local macro_rules | `(tactic| walk_at "dx") => `(tactic| first | (refine ⟨_, rfl, ?_⟩) | (refine Or.inl ⟨_, _, _, by assumption, rfl, rfl, ?_⟩))
local macro_rules | `(tactic| walk_at "dl") => `(tactic| first | (refine Or.inl ⟨_, by assumption, ?_⟩) | skip)
theorem r_operate : ∀ ds M Q E, sp_operate ds M Q E → b_operate sp_operate_one sp_operate_bits sp_operate_order sp_operate_sum (En Q) (startD 3 ds) M := by
  rintro ds M Q E ⟨o, w, xs, d, rfl, hs, hl, h1, h4, hx, h⟩
  rcases hs with rfl | ⟨a, rfl, ha⟩
  all_goals
    refine ⟨fun hp => ?_, fun hp => ?_⟩
    · cases o <;> first | (exact absurd hp (by decide)) | skip
      obtain ⟨x, y, z, rfl⟩ : ∃ x y z, xs = [x, y, z] := by
        match xs, hl with
        | [x, y, z], _ => exact ⟨x, y, z, rfl⟩
      walk_at "dx"
      refine ⟨fun hb => ?_, fun hb => ?_⟩
      · walk_at "dx"
        have : x ≠ 0 := fun e => by subst e; exact absurd hb (by decide)
        refine qi h ?_
        show (y : Int) = ((if x = 0 then z else y : Nat) : Int)
        rw [if_neg this]
      · walk_at "dx"
        have : x = 0 := by simpa using hb
        refine qi h ?_
        show (z : Int) = ((if x = 0 then z else y : Nat) : Int)
        rw [if_pos this]
    · walk_at "dl"
      refine ⟨fun hb => ?_, fun hb => ?_⟩
      · have hb := of_decide_eq_true hb
        rw [List.length_map] at hb
        obtain ⟨x, rfl⟩ : ∃ x, xs = [x] := by
          match xs, hb with
          | [x], _ => exact ⟨x, rfl⟩
        walk_at "dx"
        exact ⟨o, w, x, rfl, hl.symm, h1, h4, hx x (by simp), h⟩
      · have hb := of_decide_eq_false hb
        rw [List.length_map] at hb
        have hne : o ≠ .pick := fun e => by subst e; exact absurd hp (by decide)
        have h2 : o.ar = 2 := by cases o <;> first | rfl | (exact absurd rfl hne) | (exfalso; apply hb; rw [hl]; rfl)
        obtain ⟨x, y, rfl⟩ : ∃ x y, xs = [x, y] := by
          rw [h2] at hl
          match xs, hl with
          | [x, y], _ => exact ⟨x, y, rfl⟩
        have hx1 := hx x (by simp)
        have hy1 := hx y (by simp)
        refine ⟨by decide, rfl, rfl, fun hc => ?_, fun hc => ⟨by decide, rfl, rfl, fun hd => ?_, fun hd => ?_⟩⟩
        · walk_at "dx"
          walk_at "dx"
          refine ⟨o, w, x, y, rfl, ?_, h4, hx1, hy1, h⟩
          cases o <;> first | (exact absurd hc (by decide)) | simp
        · walk_at "dx"
          walk_at "dx"
          refine ⟨o, w, x, y, rfl, ?_, h4, hx1, hy1, h⟩
          cases o <;> first | (exact absurd hd (by decide)) | simp
        · walk_at "dx"
          walk_at "dx"
          refine ⟨o, w, x, y, rfl, ?_, h4, hx1, hy1, h⟩
          cases o <;> first | (exact absurd h2 (by decide)) | (exact absurd hc (by decide)) | (exact absurd hd (by decide)) | simp
end Rd

set_option Elab.async false
set_option linter.all false
set_option autoImplicit false
set_option maxRecDepth 100000
set_option maxHeartbeats 4000000
/-! readings: formulas -/
namespace Rd
open PySem PySem.Spec PyProof.Rows L2 DH Bd
/-! ### lists -/
theorem cut1 {ds : List D} : cutL D ds (some 1) none = ds.drop 1 := by
  unfold cutL
  rw [show HT.sIx ds.length 0 (some 1) = min 1 ds.length from HT.sIx_nat ds.length 0 1, HT.sIx_none]
  cases ds with
  | nil => rfl
  | cons x r =>
    rw [show min 1 (x :: r).length = 1 by rw [List.length_cons]; omega]
    show List.take ((x :: r).length - 1) r = r
    rw [List.length_cons, Nat.add_sub_cancel]
    exact List.take_length
theorem take_snoc {α : Type} {l : List α} {i : Nat} {x : α} (h : l[i]? = some x) : l.take (i + 1) = l.take i ++ [x] := by
  rw [List.take_add_one, h]; rfl
theorem mem_at {α : Type} {l : List α} {i : Nat} {x : α} (h : l[i]? = some x) : x ∈ l := List.mem_of_getElem? h
theorem lt_at {α : Type} {l : List α} {i : Nat} {x : α} (h : l[i]? = some x) : i < l.length := (List.getElem?_eq_some_iff.mp h).1
theorem at0 {α : Type} {x : α} {r : List α} : atI (x :: r) 0 = some x := atI_nat (j := 0) rfl
/-! ### trees of numbers, texts and tuples -/
mutual
def tree : D → Bool
  | .int _ | .str _ => true
  | .tup ds => trees ds
  | _ => false
def trees : List D → Bool
  | [] => true
  | d :: ds => tree d && trees ds
end
mutual
def sizeD : D → Nat
  | .tup (_ :: t) => 1 + sizeDs t
  | _ => 1
def sizeDs : List D → Nat
  | [] => 0
  | d :: ds => sizeD d + sizeDs ds
end
mutual
def depthD : D → Nat
  | .tup [] => 1
  | .tup (_ :: t) => depthDs t + 1
  | _ => 0
def depthDs : List D → Nat
  | [] => 0
  | d :: ds => max (depthD d) (depthDs ds)
end
theorem trees_mem : ∀ {ds : List D}, trees ds = true → ∀ d ∈ ds, tree d = true
  | [], _, _, h => by cases h
  | e :: ds, ht, d, h => by
    unfold trees at ht
    obtain ⟨h1, h2⟩ := Bool.and_eq_true_iff.mp ht
    rcases List.mem_cons.mp h with rfl | h
    · exact h1
    · exact trees_mem h2 d h
theorem sizeDs_snoc : ∀ (ds : List D) (d : D), sizeDs (ds ++ [d]) = sizeDs ds + sizeD d
  | [], d => by simp [sizeDs]
  | e :: ds, d => by
    have := sizeDs_snoc ds d
    simp only [List.cons_append, sizeDs, this]; omega
theorem depthD_mem : ∀ {ds : List D} {d : D}, d ∈ ds → depthD d ≤ depthDs ds
  | [], _, h => by cases h
  | e :: ds, d, h => by
    rcases List.mem_cons.mp h with rfl | h
    · simp only [depthDs]; omega
    · have := depthD_mem h
      simp only [depthDs]; omega
theorem sizeD_tup (ds : List D) : sizeD (.tup ds) = 1 + sizeDs (ds.drop 1) := by
  cases ds with
  | nil => rfl
  | cons x t => simp only [sizeD, List.drop_succ_cons, List.drop_zero]
theorem depthD_tup (ds : List D) : depthD (.tup ds) = depthDs (ds.drop 1) + 1 := by
  cases ds with
  | nil => rfl
  | cons x t => simp only [depthD, List.drop_succ_cons, List.drop_zero]
theorem drop_mem {ds : List D} {d : D} (h : d ∈ ds.drop 1) : d ∈ ds := List.mem_of_mem_drop h
theorem tree_tup {ds : List D} (h : tree (.tup ds) = true) : ∀ d ∈ ds, tree d = true := trees_mem (by unfold tree at h; exact h)
/-! ### size -/
def sp_size (n : Nat) : DSp := fun ds M Q _ => ∃ d, ds = [d] ∧ tree d = true ∧ depthD d < n ∧ Q (.int (sizeD d)) M
theorem r_formula_size (n : Nat) : ∀ ds M Q E, sp_size (n + 1) ds M Q E → b_formula_size (sp_size n) (En Q) (startD 3 ds) M := by
  rintro ds M Q E ⟨d, rfl, ht, hn, h⟩
  cases d with
  | int i => exact ⟨fun _ => h, fun hc => absurd hc (by decide)⟩
  | str i => exact ⟨fun _ => h, fun hc => absurd hc (by decide)⟩
  | tup ds =>
    refine ⟨fun hc => absurd hc (by decide), fun _ => ?_⟩
    refine ⟨fun i E M' => M' = M ∧ ∃ x, E = [some (.tup ds), some (.int ((1 + sizeDs ((ds.drop 1).take i) : Nat) : Int)), x], ⟨rfl, none, rfl⟩, fun _ _ _ _ => trivial, ?_, ?_⟩
    · rintro i E M' d hd ⟨rfl, x, rfl⟩
      rw [cut1] at hd
      have hm := mem_at hd
      have h1 := depthD_mem hm
      rw [depthD_tup] at hn
      refine ⟨d, rfl, tree_tup ht d (drop_mem hm), by omega, rfl, some d, ?_⟩
      rw [take_snoc hd, sizeDs_snoc]
      refine congrArg (fun z => [some (D.tup ds), some (D.int z), some d]) ?_
      omega
    · rintro E M' ⟨rfl, x, rfl⟩
      refine qi h ?_
      rw [cut1, List.take_length, sizeD_tup]
  | _ => simp [tree] at ht
/-! ### depth -/
/-! ### names -/
def lowers : Str := "abcdefghijklmnopqrstuvwxyz"
def digits : Str := "0123456789"
def low (c : Nat) : Bool := decide (c ∈ lowers.cps.toList)
def dig (c : Nat) : Bool := decide (c ∈ digits.cps.toList)
/-- a name -/
def nameL : List Nat → Bool
  | [] => false
  | c :: r => decide (r.length ≤ 5) && low c && r.all fun x => low x || dig x
def isNameS (s : Str) : Bool := nameL s.cps.toList
def sp_is_name : DSp := fun ds M Q _ => ∃ s : Str, ds = [.str s] ∧ s.length ≤ 1000 ∧ Q (.bl (isNameS s)) M
theorem str_len (s : Str) : s.cps.toList.length = s.length := by simp [Str.length]
theorem small_line {n : Nat} (h : n ≤ 1000) : n ≤ sizeLine := Nat.le_of_lt (small1000 h)
local macro_rules | `(tactic| walk_at "if") => `(tactic| first | (refine ⟨fun _ => ?_, fun hc => absurd hc (by decide)⟩) | (refine ⟨fun hc => absurd hc (by decide), fun _ => ?_⟩))
theorem strD_at {s : Str} {i : Nat} {d : D} (h : (strD s)[i]? = some d) : ∃ c, s.cps.toList[i]? = some c ∧ d = .str ⟨#[c]⟩ := by
  unfold strD at h
  rw [List.getElem?_map] at h
  obtain ⟨c, h1, h2⟩ := Option.map_eq_some_iff.mp h
  exact ⟨c, h1, h2.symm⟩
theorem strD_len (s : Str) : (strD s).length = s.cps.toList.length := by unfold strD; rw [List.length_map]
theorem r_is_name : ∀ ds M Q E, sp_is_name ds M Q E → b_is_name (En Q) (startD 2 ds) M := by
  rintro ds M Q E ⟨s, rfl, hl, h⟩
  have e1 := str_len s
  have hl2 := small_line hl
  unfold isNameS at h
  refine ⟨hl2, fun h1 => ⟨fun h2 => ?_, fun h2 => ?_⟩, fun h1 => ?_⟩
  · walk_at "if"
    have h2 : ¬ ((s.length : Int) ≤ 6) := by simpa using h2
    refine qb h ?_
    cases e : s.cps.toList with
    | nil => rfl
    | cons c r =>
      rw [e, List.length_cons] at e1
      simp only [nameL]
      rw [decide_eq_false (by omega)]; rfl
  · have h1 := of_decide_eq_true h1
    have h2 : (s.length : Int) ≤ 6 := by simpa using h2
    cases e : s.cps.toList with
    | nil => rw [e, List.length_nil] at e1; omega
    | cons c r =>
      rw [e, List.length_cons] at e1
      have hr : decide (r.length ≤ 5) = true := decide_eq_true (by omega)
      refine ⟨hl2, c, by rw [e]; exact at0, c, rfl, fun h3 => ?_, fun h3 => ?_⟩
      · refine qb h ?_
        rw [e]
        have h3 : low c = false := by simpa [low, lowers] using h3
        simp only [nameL, h3, Bool.and_false, Bool.false_and]
      · have h3 : low c = true := by simpa [low, lowers] using h3
        refine ⟨fun i E M' => M' = M ∧ (∃ x, E = [some (.str s), x]) ∧ ((s.cps.toList.take i).all fun x => low x || dig x) = true, ⟨rfl, ⟨none, rfl⟩, rfl⟩, fun _ _ _ _ => trivial, ?_, ?_⟩
        · rintro i E M' d hd ⟨rfl, ⟨x, rfl⟩, ha⟩
          obtain ⟨c', hc, rfl⟩ := strD_at hd
          have st : low c' = true ∨ dig c' = true → ((s.cps.toList.take (i + 1)).all fun x => low x || dig x) = true := fun q => by
            rw [take_snoc hc, List.all_append, ha]
            simpa using q
          refine ⟨c', rfl, fun h4 => ⟨c', rfl, fun h5 => ?_, fun h5 => ⟨rfl, ⟨_, rfl⟩, st (.inr (by simpa [dig, digits] using h5))⟩⟩, fun h4 => ?_⟩
          · refine qb h ?_
            have h4 : low c' = false := by simpa [low, lowers] using h4
            have h5 : dig c' = false := by simpa [dig, digits] using h5
            rw [e] at hc ⊢
            simp only [nameL, hr, h3, Bool.true_and]
            cases i with
            | zero =>
              have : c = c' := by simpa using hc
              subst this
              rw [h3] at h4; cases h4
            | succ i =>
              have hm : c' ∈ r := mem_at (i := i) (by simpa using hc)
              exact (List.all_eq_false.mpr ⟨c', hm, by rw [h4, h5]; decide⟩).symm
          · walk_at "if"
            exact ⟨rfl, ⟨_, rfl⟩, st (.inl (by simpa [low, lowers] using h4))⟩
        · rintro E M' ⟨rfl, ⟨x, rfl⟩, ha⟩
          refine qb h ?_
          rw [strD_len, List.take_length] at ha
          rw [e] at ha ⊢
          rw [List.all_cons] at ha
          simp only [nameL, hr, h3, Bool.true_and]
          exact (Bool.and_eq_true_iff.mp ha).2.symm
  · walk_at "if"
    walk_at "if"
    have h1 := of_decide_eq_false h1
    refine qb h ?_
    cases e : s.cps.toList with
    | nil => rfl
    | cons c r => rw [e, List.length_cons] at e1; omega
end Rd

set_option Elab.async false
set_option linter.all false
set_option autoImplicit false
set_option maxRecDepth 100000
set_option maxHeartbeats 4000000
/-! readings: shapes, names -/
namespace Rd
open PySem PySem.Spec PyProof.Rows L2 DH Bd
local macro_rules | `(tactic| walk_at "if") => `(tactic| first | (refine ⟨fun _ => ?_, fun hc => absurd hc (by decide)⟩) | (refine ⟨fun hc => absurd hc (by decide), fun _ => ?_⟩))
/-! ### operations by name -/
def ops : List Op := [.not, .neg, .and, .or, .xor, .add, .sub, .mul, .shl, .shr, .eq, .lt, .slt, .pick]
def opOf (s : Str) : Option Op := ops.find? fun o => s == o.nm
theorem arity_map : kv_ARITY = ops.map fun o => (o.nm, D.int o.ar) := rfl
theorem lookup_map {α β κ : Type} [BEq κ] (f : α → κ) (g : α → β) (s : κ) : ∀ l : List α, (l.map fun a => (f a, g a)).lookup s = (l.find? fun a => s == f a).map g
  | [] => rfl
  | a :: r => by
    rw [List.map_cons, List.lookup_cons, List.find?_cons]
    cases s == f a with
    | true => rfl
    | false => exact lookup_map f g s r
theorem arity_look (s : Str) : kv_ARITY.lookup s = (opOf s).map fun o => D.int o.ar := by
  rw [arity_map, lookup_map]; rfl
theorem opOf_nm {s : Str} {o : Op} (h : opOf s = some o) : s = o.nm := by
  have := List.find?_some h
  exact eq_of_beq this
theorem opOf_of (o : Op) : opOf o.nm = some o := by cases o <;> decide +kernel
def isOpS (s : Str) : Bool := (opOf s).isSome
theorem arity_some (s : Str) : (kv_ARITY.lookup s).isSome = isOpS s := by
  rw [arity_look]; unfold isOpS; cases opOf s <;> rfl
/-! ### shape -/
def shapedD (w : Nat) (nms : List Str) : Nat → D → Bool
  | _, .int i => decide (0 ≤ i) && decide (i < (2 ^ w : Nat))
  | _, .str s => decide (s ∈ nms)
  | k + 1, .tup (.str s :: t) => (match opOf s with
    | some o => t.length == o.ar && t.all (shapedD w nms k)
    | none => false)
  | _, _ => false
theorem inD_strs (s : Str) (nms : List Str) : inD (.str s) (nms.map D.str) = decide (s ∈ nms) := by
  induction nms with
  | nil => rfl
  | cons x r ih =>
    unfold inD at ih ⊢
    rw [List.map_cons, List.any_cons, ih]
    show (x == s || _) = _
    rw [Bool.eq_iff_iff]
    simp only [Bool.or_eq_true, beq_iff_eq, decide_eq_true_eq, List.mem_cons]
    exact ⟨fun h => h.imp Eq.symm id, fun h => h.imp Eq.symm id⟩
theorem flat_strs (nms : List Str) : (nms.map D.str).all flatD = true := by
  rw [List.all_eq_true]
  intro d hd
  obtain ⟨s, _, rfl⟩ := List.mem_map.mp hd
  rfl
def sp_is_shaped (n : Nat) : DSp := fun ds M Q _ => ∃ (d nd : D) (w k : Nat) (nms : List Str), ds = [d, .int w, nd, .int k] ∧ SeqM M nd (nms.map D.str) ∧ tree d = true ∧ w ≤ 1000 ∧ k < n ∧ Q (.bl (shapedD w nms k d)) M
theorem r_is_shaped (n : Nat) : ∀ ds M Q E, sp_is_shaped (n + 1) ds M Q E → b_is_shaped sp_word_limit (sp_is_shaped n) (En Q) (startD 5 ds) M := by
  rintro ds M Q E ⟨d, nd, w, k, nms, rfl, hs, ht, hw, hk, h⟩
  cases d with
  | int i =>
    refine ⟨fun _ => ⟨fun h1 => ⟨w, rfl, hw, ?_⟩, fun h1 => ?_⟩, fun hc => absurd hc (by decide)⟩
    · refine qb h ?_
      simp only [shapedD]
      rw [h1, Bool.true_and]
    · refine qb h ?_
      simp only [shapedD]
      rw [h1, Bool.false_and]
  | str s =>
    walk_at "if"
    walk_at "if"
    rcases hs with rfl | ⟨a, rfl, ha⟩
    · exact ⟨rfl, flat_strs nms, qb h (by simp only [shapedD]; exact inD_strs s nms)⟩
    · exact .inl ⟨_, ha, rfl, flat_strs nms, qb h (by simp only [shapedD]; exact inD_strs s nms)⟩
  | tup ds =>
    walk_at "if"
    walk_at "if"
    refine ⟨fun h1 => ?_, fun h1 => ⟨fun h2 => ?_, fun h2 => ?_⟩⟩
    · walk_at "if"
      have h1 : (k : Int) = 0 := of_decide_eq_true h1
      obtain rfl : k = 0 := by omega
      refine qb h ?_
      cases ds with
      | nil => rfl
      | cons x t => cases x <;> rfl
    · walk_at "if"
      have h2 := of_decide_eq_true h2
      obtain rfl : ds = [] := by cases ds with
        | nil => rfl
        | cons x t => rw [List.length_cons] at h2; omega
      exact qb h (by cases k <;> rfl)
    · have h1 : ¬ (k : Int) = 0 := of_decide_eq_false h1
      obtain ⟨k, rfl⟩ : ∃ j, k = j + 1 := ⟨k - 1, by omega⟩
      have h2 := of_decide_eq_false h2
      cases ds with
      | nil => exact absurd rfl h2
      | cons x t =>
        refine ⟨x, at0, ?_⟩
        cases x with
        | int i =>
          walk_at "if"
          exact h
        | tup xs =>
          walk_at "if"
          exact h
        | str s =>
          walk_at "if"
          refine ⟨.str s, at0, fun h3 => ?_, fun h3 => ?_⟩
          · walk_at "if"
            refine qb h ?_
            have h3 : (!(kv_ARITY.lookup s).isSome) = true := h3
            rw [arity_some] at h3
            have : opOf s = none := by
              unfold isOpS at h3
              cases e : opOf s with
              | none => rfl
              | some o => rw [e] at h3; cases h3
            simp only [shapedD, this]
          · have h3 : (!(kv_ARITY.lookup s).isSome) = false := h3
            rw [arity_some] at h3
            obtain ⟨o, ho⟩ : ∃ o, opOf s = some o := by
              unfold isOpS at h3
              cases e : opOf s with
              | none => rw [e] at h3; cases h3
              | some o => exact ⟨o, rfl⟩
            refine ⟨.str s, at0, .int o.ar, by rw [arity_look, ho]; rfl, fun h4 => ?_, fun h4 => ?_⟩
            · refine qb h ?_
              have h4 : ((t.length + 1 : Nat) : Int) ≠ 1 + (o.ar : Int) := by simpa using h4
              simp only [shapedD, ho]
              rw [show (t.length == o.ar) = false from by rw [beq_eq_false_iff_ne]; intro e; apply h4; omega]
              rfl
            · have h4 : ((t.length + 1 : Nat) : Int) = 1 + (o.ar : Int) := by simpa using h4
              have h5 : (t.length == o.ar) = true := by rw [beq_iff_eq]; omega
              have htr := tree_tup ht
              refine ⟨fun i E M' => M' = M ∧ (∃ x, E = [some (.tup (.str s :: t)), some (.int w), some nd, some (.int ((k + 1 : Nat) : Int)), x]) ∧ (t.take i).all (shapedD w nms k) = true, ⟨rfl, ⟨none, rfl⟩, rfl⟩, fun _ _ _ _ => trivial, ?_, ?_⟩
              · rintro i E M' d hd ⟨rfl, ⟨x, rfl⟩, ha⟩
                rw [cut1] at hd
                have hd : t[i]? = some d := hd
                have hm := mem_at hd
                refine ⟨d, nd, w, k, nms, ?_, hs, htr d (List.mem_cons_of_mem _ hm), hw, by omega, fun h6 => ?_, fun h6 => ?_⟩
                · show [d, D.int w, nd, D.int (((k + 1 : Nat) : Int) - 1)] = _
                  rw [show (((k + 1 : Nat) : Int) - 1) = (k : Int) by omega]
                · refine qb h ?_
                  have h6 : shapedD w nms k d = false := by simpa using h6
                  simp only [shapedD, ho, h5, Bool.true_and]
                  exact (List.all_eq_false.mpr ⟨d, hm, by rw [h6]; decide⟩).symm
                · have h6 : shapedD w nms k d = true := by simpa using h6
                  refine ⟨rfl, ⟨_, rfl⟩, ?_⟩
                  rw [take_snoc hd, List.all_append, ha, List.all_cons, h6]
                  rfl
              · rintro E M' ⟨rfl, ⟨x, rfl⟩, ha⟩
                refine qb h ?_
                rw [cut1] at ha
                have ha : (t.take t.length).all (shapedD w nms k) = true := ha
                rw [List.take_length] at ha
                simp only [shapedD, ho, h5, ha, Bool.true_and]
        | _ => have := tree_tup ht _ List.mem_cons_self; simp [tree] at this
  | _ => simp [tree] at ht
end Rd

set_option Elab.async false
set_option linter.all false
set_option autoImplicit false
set_option maxRecDepth 100000
set_option maxHeartbeats 4000000
/-! readings: formulas whole, names, values, substitution -/
namespace Rd
open PySem PySem.Spec PyProof.Rows L2 DH Bd
local macro_rules | `(tactic| walk_at "if") => `(tactic| first | (refine ⟨fun _ => ?_, fun hc => absurd hc (by decide)⟩) | (refine ⟨fun hc => absurd hc (by decide), fun _ => ?_⟩))
/-! ### what stood stands -/
def Ext (M M' : Mm) : Prop := ∀ a o, M a = some o → M' a = some o
theorem Ext.refl (M : Mm) : Ext M M := fun _ _ h => h
theorem Ext.trans {M M1 M2 : Mm} (a : Ext M M1) (b : Ext M1 M2) : Ext M M2 := fun x o h => b x o (a x o h)
theorem Ext.new {M : Mm} {p : Addr} {o : MO} (h : M p = none) : Ext M (updM M p o) := fun a u e => by
  rw [updM_ne (fun z => by subst z; rw [h] at e; cases e)]; exact e
/-- a thing that the first heap does not know is changed -/
theorem Ext.mut {M M' : Mm} {p : Addr} {o : MO} (e : Ext M M') (h : M p = none) : Ext M (updM M' p o) := fun a u q => by
  rw [updM_ne (fun z => by subst z; rw [h] at q; cases q)]; exact e a u q
theorem Ext.back {M M' : Mm} {p : Addr} (e : Ext M M') (h : M' p = none) : M p = none := by
  cases q : M p with
  | none => rfl
  | some o => rw [e p o q] at h; cases h
theorem Ext.ne {M : Mm} {a p : Addr} {o : MO} (h : M a = some o) (hp : M p = none) : a ≠ p := fun z => by subst z; rw [hp] at h; cases h
theorem SeqM.ext {M M' : Mm} {d : D} {ds : List D} (s : SeqM M d ds) (e : Ext M M') : SeqM M' d ds := by
  rcases s with rfl | ⟨a, rfl, h⟩
  · exact .inl rfl
  · exact .inr ⟨a, rfl, e _ _ h⟩
/-! ### formulas whole -/
theorem depths_of {p : D → Bool} {k : Nat} (hp : ∀ d, p d = true → depthD d ≤ k) : ∀ t : List D, t.all p = true → depthDs t ≤ k
  | [], _ => by simp [depthDs]
  | x :: r, h => by
    rw [List.all_cons, Bool.and_eq_true] at h
    have := hp x h.1
    have := depths_of hp r h.2
    simp only [depthDs]; omega
theorem sizeDs_take : ∀ (l : List D) (i : Nat), sizeDs (l.take i) ≤ sizeDs l
  | [], i => by simp
  | x :: r, 0 => by simp [sizeDs]
  | x :: r, i + 1 => by
    have := sizeDs_take r i
    simp only [List.take_succ_cons, sizeDs]; omega
theorem sizeD_mem : ∀ {l : List D} {d : D}, d ∈ l → sizeD d ≤ sizeDs l
  | [], _, h => by cases h
  | x :: r, d, h => by
    rcases List.mem_cons.mp h with rfl | h
    · simp only [sizeDs]; omega
    · have := sizeD_mem h
      simp only [sizeDs]; omega
theorem shaped_depth {w : Nat} {nms : List Str} : ∀ {k : Nat} {d : D}, shapedD w nms k d = true → depthD d ≤ k
  | 0, d, h => by cases d <;> first | (simp [shapedD] at h; done) | (simp [depthD]; done)
  | k + 1, .tup (.str s :: t), h => by
    simp only [shapedD] at h
    split at h
    · have h := (Bool.and_eq_true_iff.mp h).2
      have : depthDs t ≤ k := depths_of (fun d q => shaped_depth q) t h
      simp only [depthD]; omega
    · cases h
  | k + 1, .tup [], h => by simp [shapedD] at h
  | k + 1, .tup (.int _ :: _), h => by simp [shapedD] at h
  | k + 1, .tup (.tup _ :: _), h => by simp [shapedD] at h
  | k + 1, .tup (.non :: _), h => by simp [shapedD] at h
  | k + 1, .tup (.bl _ :: _), h => by simp [shapedD] at h
  | k + 1, .tup (.ref _ :: _), h => by simp [shapedD] at h
  | k + 1, .tup (.ty _ :: _), h => by simp [shapedD] at h
  | k + 1, .tup (.kd _ :: _), h => by simp [shapedD] at h
  | k + 1, .tup (.fl _ :: _), h => by simp [shapedD] at h
  | k + 1, .int _, _ => by simp [depthD]
  | k + 1, .str _, _ => by simp [depthD]
  | k + 1, .non, _ => by simp [depthD]
  | k + 1, .bl _, _ => by simp [depthD]
  | k + 1, .ref _, _ => by simp [depthD]
  | k + 1, .ty _, _ => by simp [depthD]
  | k + 1, .kd _, _ => by simp [depthD]
  | k + 1, .fl _, _ => by simp [depthD]
def formD (w : Nat) (nms : List Str) (most : Int) (d : D) : Bool := shapedD w nms 6 d && decide ((sizeD d : Int) ≤ most)
def sp_is_formula : DSp := fun ds M Q _ => ∃ (d nd : D) (w : Nat) (most : Int) (nms : List Str), ds = [d, .int w, nd, .int most] ∧ SeqM M nd (nms.map D.str) ∧ tree d = true ∧ w ≤ 1000 ∧ Q (.bl (formD w nms most d)) M
theorem r_is_formula : ∀ ds M Q E, sp_is_formula ds M Q E → b_is_formula (sp_is_shaped 7) (sp_size 7) (En Q) (startD 4 ds) M := by
  rintro ds M Q E ⟨d, nd, w, most, nms, rfl, hs, ht, hw, h⟩
  unfold formD at h
  refine ⟨d, nd, w, 6, nms, rfl, hs, ht, hw, by decide, fun hb => ?_, fun hb => ?_⟩
  · have hd := shaped_depth hb
    refine ⟨d, rfl, ht, by omega, qb h ?_⟩
    rw [hb, Bool.true_and]
  · exact qb h (by rw [hb, Bool.false_and])
/-! ### names -/
def addN (f l : List Str) : List Str := l.foldl (fun f n => if n ∈ f then f else f ++ [n]) f
mutual
def namesD : D → List Str
  | .str s => [s]
  | .tup (_ :: t) => namesDs [] t
  | _ => []
def namesDs (f : List Str) : List D → List Str
  | [] => f
  | d :: t => namesDs (addN f (namesD d)) t
end
theorem namesDs_snoc (d : D) : ∀ (t : List D) (f : List Str), namesDs f (t ++ [d]) = addN (namesDs f t) (namesD d)
  | [], f => by simp [namesDs]
  | x :: t, f => by
    simp only [List.cons_append, namesDs]
    exact namesDs_snoc d t _
theorem addN_snoc (f l : List Str) (n : Str) : addN f (l ++ [n]) = if n ∈ addN f l then addN f l else addN f l ++ [n] := by
  unfold addN
  rw [List.foldl_append]; rfl
theorem addN_len (f l : List Str) : (addN f l).length ≤ f.length + l.length := by
  induction l generalizing f with
  | nil => exact Nat.le_refl _
  | cons x r ih =>
    show (addN (if x ∈ f then f else f ++ [x]) r).length ≤ _
    have := ih (if x ∈ f then f else f ++ [x])
    split at this
    · rename_i q; rw [if_pos q] at *; rw [List.length_cons]; omega
    · rename_i q; rw [if_neg q] at *; rw [List.length_append] at this; rw [List.length_cons]; simp at this; omega
mutual
theorem names_size : ∀ d : D, (namesD d).length ≤ sizeD d
  | .str s => by simp [namesD, sizeD]
  | .tup [] => by simp [namesD, sizeD]
  | .tup (x :: t) => by
    have := names_sizes t []
    simp only [namesD, sizeD]
    simp at this; omega
  | .int _ => by simp [namesD, sizeD]
  | .non => by simp [namesD, sizeD]
  | .bl _ => by simp [namesD, sizeD]
  | .ref _ => by simp [namesD, sizeD]
  | .ty _ => by simp [namesD, sizeD]
  | .kd _ => by simp [namesD, sizeD]
  | .fl _ => by simp [namesD, sizeD]
theorem names_sizes : ∀ (t : List D) (f : List Str), (namesDs f t).length ≤ f.length + sizeDs t
  | [], f => by simp [namesDs, sizeDs]
  | d :: t, f => by
    have h1 := names_size d
    have h2 := addN_len f (namesD d)
    have h3 := names_sizes t (addN f (namesD d))
    simp only [namesDs, sizeDs]; omega
end
/-- a new list -/
def RetL (M : Mm) (Q : DQ) (ds : List D) : Prop := ∀ p M', M p = none → Ext M M' → M' p = some (.lst ds) → Q (.ref p) M'
def sp_names (n : Nat) : DSp := fun ds M Q _ => ∃ d, ds = [d] ∧ tree d = true ∧ depthD d < n ∧ sizeD d ≤ 100000 ∧ RetL M Q ((namesD d).map D.str)
theorem r_formula_names (n : Nat) : ∀ ds M Q E, sp_names (n + 1) ds M Q E → b_formula_names (sp_names n) (En Q) (startD 4 ds) M := by
  rintro ds M Q E ⟨d, rfl, ht, hn, hz, h⟩
  cases d with
  | int i =>
    walk_at "if"
    exact ⟨Nat.zero_le _, fun p hp => h p _ hp (Ext.new hp) updM_same⟩
  | str s =>
    walk_at "if"
    walk_at "if"
    exact ⟨(by show 1 ≤ sizeLine; decide), fun p hp => h p _ hp (Ext.new hp) updM_same⟩
  | tup ds =>
    walk_at "if"
    walk_at "if"
    refine ⟨Nat.zero_le _, fun p hp => ?_⟩
    have hz2 : ∀ i, (namesDs [] ((ds.drop 1).take i)).length ≤ 100000 := fun i => by
      have h1 := names_sizes ((ds.drop 1).take i) []
      rw [sizeD_tup] at hz
      have := sizeDs_take (ds.drop 1) i
      rw [List.length_nil] at h1; omega
    refine ⟨fun i E M' => Ext M M' ∧ M' p = some (.lst ((namesDs [] ((ds.drop 1).take i)).map D.str)) ∧ ∃ x y, E = [some (.tup ds), some (.ref p), x, y], ⟨Ext.new hp, updM_same, none, none, rfl⟩, fun _ _ _ _ => trivial, ?_, ?_⟩
    · rintro i E M' d hd ⟨hx, hl, x, y, rfl⟩
      rw [cut1] at hd
      have hm := mem_at hd
      have h1 := depthD_mem hm
      rw [depthD_tup] at hn
      have hsd : sizeD d ≤ 100000 := by
        rw [sizeD_tup] at hz
        have := sizeD_mem hm
        omega
      refine ⟨d, rfl, tree_tup ht d (drop_mem hm), by omega, hsd, fun q M1 hq e1 hl1 => ?_⟩
      have hp1 : M1 p = _ := e1 _ _ hl
      have hqp : q ≠ p := fun z => by subst z; rw [hq] at hl; cases hl
      refine ⟨_, hl1, fun j E M2 => Ext M M2 ∧ M2 q = some (.lst ((namesD d).map D.str)) ∧ M2 p = some (.lst ((addN (namesDs [] ((ds.drop 1).take i)) ((namesD d).take j)).map D.str)) ∧ ∃ y, E = [some (.tup ds), some (.ref p), some d, y], ⟨hx.trans e1, hl1, hp1, y, rfl⟩, fun j E M2 ⟨_, h2, _⟩ => h2, ?_, ?_⟩
      · rintro j E M2 e he ⟨hx2, hq2, hp2, y, rfl⟩
        rw [List.getElem?_map] at he
        obtain ⟨nme, hn1, rfl⟩ := Option.map_eq_some_iff.mp he
        have hlen : (addN (namesDs [] ((ds.drop 1).take i)) ((namesD d).take j)).length ≤ 200000 := by
          have a1 := addN_len (namesDs [] ((ds.drop 1).take i)) ((namesD d).take j)
          have a2 := hz2 i
          have a3 := names_size d
          have a4 : ((namesD d).take j).length ≤ (namesD d).length := by rw [List.length_take]; omega
          omega
        refine .inl ⟨_, hp2, rfl, flat_strs _, fun hb => ?_, fun hb => ?_⟩
        · have hb : ¬ nme ∈ addN (namesDs [] ((ds.drop 1).take i)) ((namesD d).take j) := by
            have hb : (!inD (.str nme) _) = true := hb
            rw [inD_strs] at hb
            simpa using hb
          refine ⟨⟨_, hp2⟩, _, hp2, ?_, hx2.mut hp, ?_, ?_, y.elim (some (.str nme)) (fun _ => some (.str nme)), ?_⟩
          · rw [List.length_map]
            exact Nat.lt_of_le_of_lt hlen (by decide)
          · rw [updM_ne hqp]; exact hq2
          · rw [updM_same, take_snoc hn1, addN_snoc, if_neg hb, List.map_append]; rfl
          · cases y <;> rfl
        · have hb : nme ∈ addN (namesDs [] ((ds.drop 1).take i)) ((namesD d).take j) := by
            have hb : (!inD (.str nme) _) = false := hb
            rw [inD_strs] at hb
            simpa using hb
          refine ⟨hx2, hq2, ?_, some (.str nme), rfl⟩
          rw [take_snoc hn1, addN_snoc, if_pos hb]; exact hp2
      · rintro E M2 ⟨hx2, hq2, hp2, y, rfl⟩
        refine ⟨hx2, ?_, some d, y, rfl⟩
        rw [List.length_map, List.take_length] at hp2
        rw [take_snoc hd, namesDs_snoc]
        exact hp2
    · rintro E M' ⟨hx, hl, x, y, rfl⟩
      refine h p M' hp hx ?_
      rw [cut1, List.take_length] at hl
      rw [hl]
      cases ds with
      | nil => rfl
      | cons z t => rfl
  | _ => simp [tree] at ht
end Rd

set_option Elab.async false
set_option linter.all false
set_option autoImplicit false
set_option maxRecDepth 100000
set_option maxHeartbeats 4000000
/-! readings: values, substitution -/
namespace Rd
open PySem PySem.Spec PyProof.Rows L2 DH Bd
local macro_rules | `(tactic| walk_at "if") => `(tactic| first | (refine ⟨fun _ => ?_, fun hc => absurd hc (by decide)⟩) | (refine ⟨fun hc => absurd hc (by decide), fun _ => ?_⟩))
/-! ### values -/
mutual
def evD (w : Nat) (ρ : Str → Nat) : D → Nat
  | .int i => i.toNat
  | .str s => ρ s
  | .tup (.str s :: t) => (match opOf s with
    | some o => o.v w (evDs w ρ t)
    | none => 0)
  | _ => 0
def evDs (w : Nat) (ρ : Str → Nat) : List D → List Nat
  | [] => []
  | d :: t => evD w ρ d :: evDs w ρ t
end
mutual
def wfD (w : Nat) (nms : List Str) : D → Bool
  | .int i => decide (0 ≤ i) && decide (i < (2 ^ w : Nat))
  | .str s => decide (s ∈ nms)
  | .tup (.str s :: t) => (match opOf s with
    | some o => t.length == o.ar && wfDs w nms t
    | none => false)
  | _ => false
def wfDs (w : Nat) (nms : List Str) : List D → Bool
  | [] => true
  | d :: t => wfD w nms d && wfDs w nms t
end
theorem wfDs_mem {w : Nat} {nms : List Str} : ∀ {t : List D}, wfDs w nms t = true → ∀ d ∈ t, wfD w nms d = true
  | [], _, _, h => by cases h
  | e :: t, ht, d, h => by
    unfold wfDs at ht
    obtain ⟨h1, h2⟩ := Bool.and_eq_true_iff.mp ht
    rcases List.mem_cons.mp h with rfl | h
    · exact h1
    · exact wfDs_mem h2 d h
theorem evDs_map (w : Nat) (ρ : Str → Nat) : ∀ t : List D, evDs w ρ t = t.map (evD w ρ)
  | [] => rfl
  | d :: t => by simp only [evDs, List.map_cons, evDs_map w ρ t]
theorem op_inv {w : Nat} {nms : List Str} {ds : List D} (h : wfD w nms (.tup ds) = true) : ∃ (o : Op) (t : List D), ds = .str o.nm :: t ∧ t.length = o.ar ∧ (∀ d ∈ t, wfD w nms d = true) ∧ ∀ ρ, evD w ρ (.tup ds) = o.v w (t.map (evD w ρ)) := by
  match ds, h with
  | .str s :: t, h =>
    simp only [wfD] at h
    cases e : opOf s with
    | none => rw [e] at h; cases h
    | some o =>
      rw [e] at h
      obtain ⟨h1, h2⟩ := Bool.and_eq_true_iff.mp h
      have es := opOf_nm e
      subst es
      refine ⟨o, t, rfl, by simpa using h1, wfDs_mem h2, fun ρ => ?_⟩
      simp only [evD, e, evDs_map]
  | [], h => simp [wfD] at h
  | .int _ :: _, h => simp [wfD] at h
  | .tup _ :: _, h => simp [wfD] at h
  | .non :: _, h => simp [wfD] at h
  | .bl _ :: _, h => simp [wfD] at h
  | .ref _ :: _, h => simp [wfD] at h
  | .ty _ :: _, h => simp [wfD] at h
  | .kd _ :: _, h => simp [wfD] at h
  | .fl _ :: _, h => simp [wfD] at h
theorem opv_lt {w : Nat} (hw : 1 ≤ w) (o : Op) (xs : List Nat) (hl : xs.length = o.ar) (hx : ∀ x ∈ xs, x < 2 ^ w) : o.v w xs < 2 ^ w := by
  have hp : 0 < 2 ^ w := Nat.two_pow_pos w
  have h2 : 2 ≤ 2 ^ w := by
    have := Nat.pow_le_pow_right (n := 2) (by decide) hw
    simpa using this
  have bl : ∀ b, b2n b < 2 ^ w := fun b => by cases b; (show 0 < 2 ^ w; omega); (show 1 < 2 ^ w; omega)
  cases o
  case not => match xs, hl with
    | [x], _ => show 2 ^ w - 1 - x < 2 ^ w; omega
  case neg => match xs, hl with
    | [x], _ => exact Nat.mod_lt _ hp
  case and => match xs, hl, hx with
    | [x, y], _, hx => exact Nat.lt_of_le_of_lt Nat.and_le_left (hx x (by simp))
  case or => match xs, hl, hx with
    | [x, y], _, hx => exact Nat.or_lt_two_pow (hx x (by simp)) (hx y (by simp))
  case xor => match xs, hl, hx with
    | [x, y], _, hx => exact Nat.xor_lt_two_pow (hx x (by simp)) (hx y (by simp))
  case add => match xs, hl with
    | [x, y], _ => exact Nat.mod_lt _ hp
  case sub => match xs, hl with
    | [x, y], _ => exact Nat.mod_lt _ hp
  case mul => match xs, hl with
    | [x, y], _ => exact Nat.mod_lt _ hp
  case shl => match xs, hl with
    | [x, y], _ => exact Nat.mod_lt _ hp
  case shr => match xs, hl, hx with
    | [x, y], _, hx => exact Nat.lt_of_le_of_lt (Nat.div_le_self _ _) (hx x (by simp))
  case eq => match xs, hl with
    | [x, y], _ => exact bl _
  case lt => match xs, hl with
    | [x, y], _ => exact bl _
  case slt => match xs, hl with
    | [x, y], _ => exact bl _
  case pick => match xs, hl, hx with
    | [x, y, z], _, hx =>
      show (if x = 0 then z else y) < 2 ^ w
      split
      · exact hx z (by simp)
      · exact hx y (by simp)
mutual
theorem ev_lt {w : Nat} (hw : 1 ≤ w) {nms : List Str} {ρ : Str → Nat} (hρ : ∀ s ∈ nms, ρ s < 2 ^ w) : ∀ d : D, wfD w nms d = true → evD w ρ d < 2 ^ w
  | .int i, h => by
    simp only [wfD, Bool.and_eq_true, decide_eq_true_eq] at h
    simp only [evD]; omega
  | .str s, h => by
    simp only [wfD, decide_eq_true_eq] at h
    simp only [evD]; exact hρ s h
  | .tup (.str s :: t), h => by
    simp only [wfD] at h
    simp only [evD]
    cases e : opOf s with
    | none => rw [e] at h; cases h
    | some o =>
      rw [e] at h
      obtain ⟨h1, h2⟩ := Bool.and_eq_true_iff.mp h
      have h3 := evs_lt hw hρ t h2
      refine opv_lt hw o _ ?_ h3
      rw [evDs_map, List.length_map]
      simpa using h1
  | .tup [], h => by simp [wfD] at h
  | .tup (.int _ :: _), h => by simp [wfD] at h
  | .tup (.tup _ :: _), h => by simp [wfD] at h
  | .tup (.non :: _), h => by simp [wfD] at h
  | .tup (.bl _ :: _), h => by simp [wfD] at h
  | .tup (.ref _ :: _), h => by simp [wfD] at h
  | .tup (.ty _ :: _), h => by simp [wfD] at h
  | .tup (.kd _ :: _), h => by simp [wfD] at h
  | .tup (.fl _ :: _), h => by simp [wfD] at h
  | .non, h => by simp [wfD] at h
  | .bl _, h => by simp [wfD] at h
  | .ref _, h => by simp [wfD] at h
  | .ty _, h => by simp [wfD] at h
  | .kd _, h => by simp [wfD] at h
  | .fl _, h => by simp [wfD] at h
theorem evs_lt {w : Nat} (hw : 1 ≤ w) {nms : List Str} {ρ : Str → Nat} (hρ : ∀ s ∈ nms, ρ s < 2 ^ w) : ∀ t : List D, wfDs w nms t = true → ∀ x ∈ evDs w ρ t, x < 2 ^ w
  | [], _, x, hx => by simp [evDs] at hx
  | d :: t, h, x, hx => by
    simp only [wfDs, Bool.and_eq_true] at h
    simp only [evDs, List.mem_cons] at hx
    rcases hx with rfl | hx
    · exact ev_lt hw hρ d h.1
    · exact evs_lt hw hρ t h.2 x hx
end
/-- a dict that gives the names words -/
def EnvM (M : Mm) (a : Addr) (w : Nat) (ρ : Str → Nat) (nms : List Str) : Prop := ∃ kvs, M a = some (.dk kvs) ∧ ∀ s ∈ nms, valD kvs (.inr s) = some (.int (ρ s)) ∧ ρ s < 2 ^ w
theorem EnvM.ext {M M' : Mm} {a : Addr} {w : Nat} {ρ : Str → Nat} {nms : List Str} (h : EnvM M a w ρ nms) (e : Ext M M') : EnvM M' a w ρ nms :=
  let ⟨kvs, h1, h2⟩ := h; ⟨kvs, e _ _ h1, h2⟩
/-- a value, whatever is made on the way -/
def RetV (M : Mm) (Q : DQ) (d : D) : Prop := ∀ M', Ext M M' → Q d M'
def sp_value (n : Nat) : DSp := fun ds M Q _ => ∃ (d : D) (w : Nat) (a : Addr) (ρ : Str → Nat) (nms : List Str), ds = [d, .int w, .ref a] ∧ 1 ≤ w ∧ w ≤ 4 ∧ wfD w nms d = true ∧ depthD d < n ∧ EnvM M a w ρ nms ∧ RetV M Q (.int (evD w ρ d))
theorem wds_map {w : Nat} {ρ : Str → Nat} (t : List D) : wds (t.map (evD w ρ)) = t.map fun d => D.int (evD w ρ d : Nat) := by
  unfold wds; rw [List.map_map]; rfl
theorem r_formula_value (n : Nat) : ∀ ds M Q E, sp_value (n + 1) ds M Q E → b_formula_value (sp_value n) sp_operate (En Q) (startD 5 ds) M := by
  rintro ds M Q E ⟨d, w, a, ρ, nms, rfl, hw, h4, hd, hn, he, h⟩
  cases d with
  | int i =>
    walk_at "if"
    refine qi (h M (Ext.refl M)) ?_
    simp only [wfD, Bool.and_eq_true, decide_eq_true_eq] at hd
    simp only [evD]; omega
  | str s =>
    walk_at "if"
    walk_at "if"
    obtain ⟨kvs, h1, h2⟩ := he
    simp only [wfD, decide_eq_true_eq] at hd
    refine .inr ⟨kvs, .inr s, _, h1, rfl, (h2 s hd).1, ?_⟩
    refine qi (h M (Ext.refl M)) ?_
    simp only [evD]
  | tup ds =>
    obtain ⟨o, t, rfl, hl, ht, hev⟩ := op_inv hd
    walk_at "if"
    walk_at "if"
    refine ⟨Nat.zero_le _, fun p hp => ?_⟩
    refine ⟨fun i E M' => Ext M M' ∧ M' p = some (.lst ((t.take i).map fun d => D.int (evD w ρ d : Nat))) ∧ ∃ x, E = [some (.tup (.str o.nm :: t)), some (.int w), some (.ref a), some (.ref p), x], ⟨Ext.new hp, updM_same, none, rfl⟩, fun _ _ _ _ => trivial, ?_, ?_⟩
    · rintro i E M' d hd ⟨hx, hl2, x, rfl⟩
      rw [cut1] at hd
      have hd : t[i]? = some d := hd
      have hm := mem_at hd
      have h1 := depthD_mem hm
      rw [depthD_tup] at hn
      have hn : depthDs t + 1 < n + 1 := hn
      refine ⟨⟨_, hl2⟩, d, w, a, ρ, nms, rfl, hw, h4, ht d hm, by omega, he.ext hx, fun M1 e1 => ?_⟩
      have hlt := lt_at hd
      have h3 : o.ar ≤ 3 := by cases o <;> decide
      refine ⟨_, e1 _ _ hl2, ?_, (hx.trans e1).mut hp, ?_, some d, rfl⟩
      · rw [List.length_map, List.length_take]
        exact Nat.lt_of_le_of_lt (show min i t.length ≤ 3 by omega) (by decide)
      · rw [updM_same, take_snoc hd, List.map_append]; rfl
    · rintro E M' ⟨hx, hl2, x, rfl⟩
      rw [cut1] at hl2
      have hl2 : M' p = some (.lst ((t.take t.length).map fun d => D.int (evD w ρ d : Nat))) := hl2
      rw [List.take_length] at hl2
      refine ⟨.str o.nm, at0, o, w, t.map (evD w ρ), .ref p, rfl, .inr ⟨p, rfl, ?_⟩, by rw [List.length_map]; exact hl, hw, h4, ?_, ?_⟩
      · rw [wds_map]; exact hl2
      · intro x hx
        obtain ⟨d, hd, rfl⟩ := List.mem_map.mp hx
        obtain ⟨kvs, h1, h2⟩ := he
        exact ev_lt hw (fun s hs => (h2 s hs).2) d (ht d hd)
      · refine qi (h M' hx) ?_
        rw [hev]
  | _ => simp [wfD] at hd
/-! ### substitution -/
mutual
def putF (ρ : Str → Option D) : D → D
  | .str s => (ρ s).getD (.str s)
  | .tup (x :: t) => .tup (x :: putFs ρ t)
  | d => d
def putFs (ρ : Str → Option D) : List D → List D
  | [] => []
  | d :: t => putF ρ d :: putFs ρ t
end
end Rd

set_option Elab.async false
set_option linter.all false
set_option autoImplicit false
set_option maxRecDepth 100000
set_option maxHeartbeats 4000000
/-! readings: the draw -/
namespace Rd
open PySem PySem.Spec PyProof.Rows L2 DH Bd
local macro_rules | `(tactic| walk_at "if") => `(tactic| first | (refine ⟨fun _ => ?_, fun hc => absurd hc (by decide)⟩) | (refine ⟨fun hc => absurd hc (by decide), fun _ => ?_⟩))
theorem tolist {n : Nat} (h : n ≤ 10000000) : n < sizeLine := Nat.lt_of_le_of_lt h (by decide)
def Cur (c : Addr) (M : Mm) : Prop := ∃ k : Nat, M c = some (.lst [.int k])
/-- all but the cursor stays -/
structure Dr (c : Addr) (M M' : Mm) : Prop where
  ex : ∀ a o, a ≠ c → M a = some o → M' a = some o
  cur : Cur c M → Cur c M'
structure Dw (p c : Addr) (M : Mm) : Prop where
  ne : p ≠ c
  nums : ∃ ds, M p = some (.lst ds) ∧ 0 < ds.length ∧ ds.length ≤ 3000 ∧ ∀ d ∈ ds, ∃ n : Nat, d = .int n
  cur : Cur c M
theorem Dr.refl {c : Addr} (M : Mm) : Dr c M M := ⟨fun _ _ _ h => h, fun h => h⟩
theorem Dr.trans {c : Addr} {M M1 M2 : Mm} (a : Dr c M M1) (b : Dr c M1 M2) : Dr c M M2 := ⟨fun x o n h => b.ex x o n (a.ex x o n h), fun h => b.cur (a.cur h)⟩
theorem Dr.ofExt {c : Addr} {M M' : Mm} (e : Ext M M') : Dr c M M' := ⟨fun a o _ h => e a o h, fun ⟨k, h⟩ => ⟨k, e _ _ h⟩⟩
theorem Dr.new {c p : Addr} {M : Mm} {o : MO} (h : M p = none) : Dr c M (updM M p o) := .ofExt (Ext.new h)
theorem Dr.mut {c p : Addr} {M M' : Mm} {o : MO} (e : Dr c M M') (hc : Cur c M) (h : M p = none) : Dr c M (updM M' p o) := by
  have hne : c ≠ p := fun z => by subst z; obtain ⟨k, hk⟩ := hc; rw [h] at hk; cases hk
  exact ⟨fun a u n q => by rw [updM_ne (Ext.ne q h)]; exact e.ex a u n q, fun _ => by obtain ⟨k, hk⟩ := e.cur hc; exact ⟨k, by rw [updM_ne hne]; exact hk⟩⟩
theorem Dr.back {c p : Addr} {M M' : Mm} (e : Dr c M M') (hc : Cur c M) (h : M' p = none) : M p = none := by
  cases q : M p with
  | none => rfl
  | some o =>
    have : p ≠ c := fun z => by subst z; obtain ⟨k, hk⟩ := e.cur hc; rw [h] at hk; cases hk
    have := e.ex p o this q; rw [h] at this; cases this
theorem Dw.go {p c : Addr} {M M' : Mm} (d : Dw p c M) (e : Dr c M M') : Dw p c M' :=
  ⟨d.ne, let ⟨ds, h1, h2⟩ := d.nums; ⟨ds, e.ex _ _ d.ne h1, h2⟩, e.cur d.cur⟩
theorem Dw.cne {p c q : Addr} {M : Mm} (d : Dw p c M) (h : M q = none) : q ≠ c := fun z => by
  subst z; obtain ⟨k, hk⟩ := d.cur; rw [h] at hk; cases hk
def sp_take : DSp := fun ds M Q _ => ∃ (p c : Addr) (m : Nat), ds = [.ref p, .ref c, .int m] ∧ 0 < m ∧ Dw p c M ∧ ∀ r : Nat, r < m → ∀ M', Dr c M M' → Q (.int r) M'
theorem r__law_take : ∀ ds M Q E, sp_take ds M Q E → b__law_take (En Q) (startD 4 ds) M := by
  rintro ds M Q E ⟨p, c, m, rfl, hm, dw, h⟩
  obtain ⟨xs, hp, h0, h3, hx⟩ := dw.nums
  obtain ⟨k, hc⟩ := dw.cur
  have hlt : k % xs.length < xs.length := Nat.mod_lt _ h0
  obtain ⟨n, hn⟩ := hx _ (List.getElem_mem hlt)
  have hat : xs[k % xs.length]? = some (.int n) := by rw [List.getElem?_eq_getElem hlt, hn]
  refine .inl ⟨_, 0, _, hc, rfl, at0, .inl ⟨xs, hp, ⟨by omega, .inl ⟨xs, _, _, hp, rfl, atI_nat (j := k % xs.length) hat, ?_⟩⟩⟩⟩
  refine .inl ⟨_, 0, _, hc, rfl, at0, .inl ⟨_, 0, 0, hc, rfl, rfl, ?_⟩⟩
  refine ⟨by omega, ?_⟩
  have := h (n % m) (Nat.mod_lt _ hm) (updM M c (.lst [.int ((k + 1 : Nat) : Int)])) ⟨fun a o na ha => by rw [updM_ne na]; exact ha, fun _ => ⟨_, updM_same⟩⟩
  exact this
/-! ### the stream -/
def sp_mix : DSp := fun ds M Q _ => ∃ (a k : Int), ds = [.int a, .int k] ∧ ∀ r : Nat, Q (.int r) M
theorem r__law_mix : ∀ ds M Q E, sp_mix ds M Q E → b__law_mix (En Q) (startD 2 ds) M := by
  rintro ds M Q E ⟨a, k, rfl, h⟩
  refine ⟨.inr ⟨by decide, by decide⟩, .inr ⟨by decide, by decide⟩, (by decide : (0:Int) < 2147483647), .inr ⟨by decide, by decide⟩, .inr ⟨by decide, by decide⟩, (by decide : (0:Int) < 2147483399), ?_⟩
  obtain ⟨r, hr⟩ := Int.eq_ofNat_of_zero_le (Int.emod_nonneg (((a * 48271 + k * 69621 + 12345) % 2147483647) * 40692 + k * 52774 + 7) (b := 2147483399) (by decide))
  exact qi (h r) hr
def sp_arity : DSp := fun ds M Q _ => ∃ (o : Op) (m : Nat), ds = [.str o.nm] ∧ o.ar = m ∧ RetV M Q (.int m)
theorem r__law_arity : ∀ ds M Q E, sp_arity ds M Q E → b__law_arity (En Q) (startD 1 ds) M := by
  rintro ds M Q E ⟨o, m, rfl, rfl, h⟩
  refine ⟨by decide, fun p hp => ?_⟩
  refine .inl ⟨_, updM_same, rfl, rfl, ?_⟩
  have h := h _ (Ext.new (o := .lst [.str "not", .str "neg"]) hp)
  cases o
  all_goals
    walk_at "if"
    first
      | exact h
      | (walk_at "if"; exact h)
theorem fl_at {ns : List Int} {i : Nat} (h : i < ns.length) : ∃ n : Int, (ns.map D.int)[i]? = some (.int n) := ⟨ns[i], by simp [h]⟩
def NumL (M : Mm) (p : Addr) (B : Nat) : Prop := ∃ ds, M p = some (.lst ds) ∧ ds.length ≤ B ∧ ∀ d ∈ ds, ∃ n : Nat, d = .int n
theorem NumL.push {M : Mm} {p : Addr} {ds : List D} {n : Int} {B : Nat} (h1 : ds.length ≤ B) (h2 : ∀ d ∈ ds, ∃ n : Nat, d = .int n) (hn : 0 ≤ n) : NumL (updM M p (.lst (ds ++ [.int n]))) p (B + 1) :=
  ⟨_, updM_same, by rw [List.length_append]; show ds.length + 1 ≤ B + 1; omega, fun d hd => by
    rcases List.mem_append.mp hd with hd | hd
    · exact h2 d hd
    · obtain ⟨m, rfl⟩ := Int.eq_ofNat_of_zero_le hn
      exact ⟨m, List.mem_singleton.mp hd⟩⟩
theorem NumL.mono {M : Mm} {p : Addr} {B C : Nat} (h : NumL M p B) (l : B ≤ C) : NumL M p C := let ⟨ds, h1, h2, h3⟩ := h; ⟨ds, h1, by omega, h3⟩
theorem rng_at {lo : Int} {n i : Nat} {d : D} (h : (rngD lo n)[i]? = some d) : i < n ∧ d = .int (lo + i) := by
  unfold rngD at h
  have hl : i < n := by have := lt_at h; simpa using this
  refine ⟨hl, ?_⟩
  rw [List.getElem?_map, List.getElem?_range hl] at h
  cases h; rfl
theorem rng_len {lo : Int} {n : Nat} : (rngD lo n).length = n := by unfold rngD; simp
def sp_stream : DSp := fun ds M Q _ => ∃ (ns : List Int) (m : Nat), ds = [.fl (ns.map D.int), .int m] ∧ ns.length ≤ 63 ∧ m ≤ 400 ∧ 0 < m ∧ ∀ p M', M p = none → Ext M M' → (∃ ds, M' p = some (.lst ds) ∧ 0 < ds.length ∧ ds.length ≤ 3000 ∧ ∀ d ∈ ds, ∃ n : Nat, d = .int n) → Q (.ref p) M'
theorem r__law_stream : ∀ ds M Q E, sp_stream ds M Q E → b__law_stream sp_mix (En Q) (startD 7 ds) M := by
  rintro ds M Q E ⟨ns, m, rfl, h63, hm, hm0, h⟩
  refine ⟨by show 0 ≤ sizeLine; decide, fun p hp => ?_⟩
  have hlen : ((ns.map D.int).length : Int) ≤ 63 := by rw [List.length_map]; omega
  refine ⟨by show -(2 ^ 62) ≤ (if ((ns.map D.int).length : Int) < 63 then ((ns.map D.int).length : Int) else 63); split <;> omega, by show (if ((ns.map D.int).length : Int) < 63 then ((ns.map D.int).length : Int) else 63) < _; split <;> omega, ?_⟩
  refine ⟨fun i E M' => Ext M M' ∧ NumL M' p (40 * i) ∧ ∃ l : Int, ∃ x y z, E = [some (.fl (ns.map D.int)), some (.int m), some (.ref p), some (.int l), x, y, z], ⟨Ext.new hp, ⟨[], updM_same, by simp, by simp⟩, 1, none, none, none, rfl⟩, fun _ _ _ _ => trivial, ?_, ?_⟩
  · rintro i E M' d hd ⟨hx, hl, l, x, y, z, rfl⟩
    obtain ⟨hi, rfl⟩ := rng_at hd
    have hi : i < (if ((ns.map D.int).length : Int) < 63 then ((ns.map D.int).length : Int) else 63).toNat := hi
    have hi : i < ns.length := by
      rw [List.length_map] at hi
      split at hi <;> omega
    obtain ⟨v, hv⟩ := fl_at hi
    rw [Int.zero_add]
    refine ⟨_, atI_nat hv, ?_⟩
    have hc0 : 0 ≤ (if v < 0 then -v else v) := by split <;> omega
    refine ⟨(by decide : (0:Int) < 2147483647), _, _, rfl, fun r => ?_⟩
    refine ⟨⟨by decide, by decide, by decide⟩, fun hb => ?_, fun hb => ?_⟩
    · refine ⟨by decide, by decide, ?_⟩
      refine ⟨fun j E M' => Ext M M' ∧ NumL M' p (40 * i + j) ∧ ∃ l c : Int, ∃ z, 0 ≤ c ∧ E = [some (.fl (ns.map D.int)), some (.int m), some (.ref p), some (.int l), some (.int (i : Int)), some (.int c), z], ⟨hx, hl, r, _, z, hc0, rfl⟩, fun _ _ _ _ => trivial, ?_, ?_⟩
      · rintro j E M' d hd ⟨hx, hl, l, c, z, hc0, rfl⟩
        obtain ⟨hj, rfl⟩ := rng_at hd
        refine ⟨fun hb => ?_, fun hb => ⟨hx, hl.mono (by omega), l, c, _, hc0, rfl⟩⟩
        obtain ⟨ds, h1, h2, h3⟩ := hl
        have hi3 := hi
        have hj : j < 40 := hj
        refine ⟨⟨ds, h1⟩, (by decide : (0:Int) < 1009), ds, h1, tolist (by omega), ⟨by decide, by decide⟩, ?_⟩
        exact ⟨Ext.mut hx hp, NumL.push (n := c % 1009) h2 h3 (Int.emod_nonneg _ (by decide)), l, c / 1009, _, Int.ediv_nonneg hc0 (by decide), rfl⟩
      · rintro E M' ⟨hx, hl, l, c, z, hc0, rfl⟩
        have e : (rngD 0 (40 : Int).toNat).length = 40 := rng_len
        rw [e] at hl
        exact ⟨hx, hl.mono (by omega), l, _, _, _, rfl⟩
    · obtain ⟨ds, h1, h2, h3⟩ := hl
      refine ⟨⟨ds, h1⟩, _, _, rfl, fun r2 => ⟨(by decide : (0:Int) < 1009), ds, h1, tolist (by omega), ?_⟩⟩
      exact ⟨Ext.mut hx hp, (NumL.push (n := (r2 : Int) % 1009) h2 h3 (Int.emod_nonneg _ (by decide))).mono (by omega), r, _, _, _, rfl⟩
  · rintro E M' ⟨hx, hl, l, x, y, z, rfl⟩
    rw [rng_len] at hl
    have hl : NumL M' p 2520 := hl.mono (by
      show 40 * (if ((ns.map D.int).length : Int) < 63 then ((ns.map D.int).length : Int) else 63).toNat ≤ 2520
      rw [List.length_map]
      split <;> omega)
    refine ⟨by omega, by omega, ?_⟩
    refine ⟨fun i E M' => Ext M M' ∧ (NumL M' p (2520 + i) ∧ (0 < i → ∀ ds, M' p = some (.lst ds) → 0 < ds.length)) ∧ ∃ l : Int, ∃ x y z, E = [some (.fl (ns.map D.int)), some (.int m), some (.ref p), some (.int l), x, y, z], ⟨hx, ⟨hl, fun h => absurd h (by omega)⟩, l, x, y, z, rfl⟩, fun _ _ _ _ => trivial, ?_, ?_⟩
    · rintro i E M' d hd ⟨hx, ⟨hl, hq⟩, l, x, y, z, rfl⟩
      obtain ⟨hi, rfl⟩ := rng_at hd
      have hi : i < m := by have : i < (m : Int).toNat := hi; omega
      obtain ⟨ds, h1, h2, h3⟩ := hl
      refine .inl ⟨ds, h1, fun hb => ?_, fun hb => ?_⟩
      · refine .inl ⟨ds, h1, _, _, rfl, fun r => ?_⟩
        refine ⟨⟨ds, h1⟩, (by decide : (0:Int) < 1009), ds, h1, tolist (by omega), ?_⟩
        exact ⟨Ext.mut hx hp, ⟨(NumL.push (n := (r : Int) % 1009) h2 h3 (Int.emod_nonneg _ (by decide))).mono (by omega), fun _ es he => by
          rw [updM_same] at he; cases he; simp⟩, r, _, _, _, rfl⟩
      · have hb := of_decide_eq_false hb
        exact ⟨hx, ⟨⟨ds, h1, by omega, h3⟩, fun _ es he => by rw [h1] at he; cases he; omega⟩, l, _, _, _, rfl⟩
    · rintro E M' ⟨hx, ⟨hl, hq⟩, l, x, y, z, rfl⟩
      rw [rng_len] at hl hq
      obtain ⟨ds, h1, h2, h3⟩ := hl
      have h2 : ds.length ≤ 2520 + (m : Int).toNat := h2
      have hq : 0 < (m : Int).toNat → ∀ ds, M' p = some (.lst ds) → 0 < ds.length := hq
      exact h p M' hp hx ⟨ds, h1, hq (by omega) ds h1, by omega, h3⟩
end Rd

set_option Elab.async false
set_option linter.all false
set_option autoImplicit false
set_option maxRecDepth 100000
set_option maxHeartbeats 4000000
/-! readings: the law's own formulas -/
namespace Rd
open PySem PySem.Spec PyProof.Rows L2 DH Bd
local macro_rules | `(tactic| walk_at "if") => `(tactic| first | (refine ⟨fun _ => ?_, fun hc => absurd hc (by decide)⟩) | (refine ⟨fun hc => absurd hc (by decide), fun _ => ?_⟩))
def sp_whole : DSp := fun ds M Q _ => ∃ a b : Int, ds = [.int a, .int b] ∧ Q (.bl (decide (a = b))) M
theorem r__law_is_whole : ∀ ds M Q E, sp_whole ds M Q E → b__law_is_whole (En Q) (startD 2 ds) M := by
  rintro ds M Q E ⟨a, b, rfl, h⟩
  walk_at "if"
  walk_at "if"
  exact h
def sp_two : DSp := fun ds M Q _ => ∃ (o : Op) (w x y : Nat), ds = [.str o.nm, .int w, .int x, .int y] ∧ o.ar = 2 ∧ 1 ≤ w ∧ w ≤ 4 ∧ x < 2 ^ w ∧ y < 2 ^ w ∧ Q (.int (o.v w [x, y])) M
theorem two_ok : ∀ w : Fin 5, ∀ x y : Fin 16, 1 ≤ w.1 → x.1 < 2 ^ w.1 → y.1 < 2 ^ w.1 → ((x.1 : Int) + y.1) % (1 * 2 ^ (w.1 : Int).toNat) = (Op.add.v w.1 [x.1, y.1] : Nat) ∧ ((x.1 : Int) - y.1) % (1 * 2 ^ (w.1 : Int).toNat) = (Op.sub.v w.1 [x.1, y.1] : Nat) ∧
    ((x.1 : Int) * y.1) % (1 * 2 ^ (w.1 : Int).toNat) = (Op.mul.v w.1 [x.1, y.1] : Nat) ∧ ((x.1 : Int) * 2 ^ (y.1 : Int).toNat) % (1 * 2 ^ (w.1 : Int).toNat) = (Op.shl.v w.1 [x.1, y.1] : Nat) ∧
    decide (((x.1 : Int) + (1 * 2 ^ (w.1 : Int).toNat) / 2) % (1 * 2 ^ (w.1 : Int).toNat) < ((y.1 : Int) + (1 * 2 ^ (w.1 : Int).toNat) / 2) % (1 * 2 ^ (w.1 : Int).toNat)) = decide (sgn w.1 x.1 < sgn w.1 y.1) := by decide +kernel
theorem r__law_two : ∀ ds M Q E, sp_two ds M Q E → b__law_two (En Q) (startD 5 ds) M := by
  rintro ds M Q E ⟨o, w, x, y, rfl, ho, h1, h4, hx, hy, h⟩
  refine ⟨cpow w (by omega) (by decide), ?_⟩
  have g := two_ok ⟨w, by omega⟩ ⟨x, sm h4 hx⟩ ⟨y, sm h4 hy⟩ h1 hx hy
  have hp : (0 : Int) < 1 * 2 ^ (w : Int).toNat := by rw [pow_cast]; have := Nat.two_pow_pos w; omega
  have hy4 := sm h4 hy
  have hx4 := sm h4 hx
  cases o <;> first | (exact absurd ho (by decide)) | skip
  case and => walk_at "if"; exact qi h (and_ok x y)
  case or => walk_at "if"; walk_at "if"; exact qi h (or_ok ⟨x, hx4⟩ ⟨y, hy4⟩)
  case xor => iterate 3 walk_at "if"
              exact qi h (xor_ok ⟨x, hx4⟩ ⟨y, hy4⟩)
  case add => iterate 4 walk_at "if"
              exact ⟨hp, qi h g.1⟩
  case sub => iterate 5 walk_at "if"
              exact ⟨hp, qi h g.2.1⟩
  case mul => iterate 6 walk_at "if"
              exact ⟨.inl ⟨by omega, by omega⟩, hp, qi h g.2.2.1⟩
  case shl => iterate 7 walk_at "if"
              exact ⟨⟨by omega, by omega, by omega⟩, hp, qi h g.2.2.2.1⟩
  case shr => iterate 8 walk_at "if"
              exact ⟨by omega, qi h (shr_ok x y)⟩
  case eq => iterate 9 walk_at "if"
             refine qi h (bi_ok _ _ ?_)
             rw [Bool.eq_iff_iff]; simp; omega
  case lt => iterate 10 walk_at "if"
             refine qi h (bi_ok _ _ ?_)
             rw [Bool.eq_iff_iff]; simp
  case slt => iterate 10 walk_at "if"
              exact ⟨⟨by decide, by decide⟩, hp, ⟨by decide, by decide⟩, hp, qi h (bi_ok _ _ g.2.2.2.2)⟩
/-! ### drawn formulas -/
theorem wfD_mk {w : Nat} {nms : List Str} {o : Op} {t : List D} (h1 : t.length = o.ar) (h2 : ∀ d ∈ t, wfD w nms d = true) : wfD w nms (.tup (.str o.nm :: t)) = true := by
  have hs : ∀ t : List D, (∀ d ∈ t, wfD w nms d = true) → wfDs w nms t = true := fun t => by
    induction t with
    | nil => intro _; rfl
    | cons a t ih => intro h; simp only [wfDs, h a (by simp), ih fun d hd => h d (by simp [hd]), Bool.and_self]
  simp only [wfD, opOf_of, h1, hs t h2, beq_self_eq_true, Bool.and_self]
theorem depthDs_le {k : Nat} : ∀ {t : List D}, (∀ d ∈ t, depthD d ≤ k) → depthDs t ≤ k
  | [], _ => Nat.zero_le _
  | a :: t, h => by
    have h1 := h a (by simp)
    have h2 := depthDs_le fun d hd => h d (List.mem_cons_of_mem _ hd)
    simp only [depthDs]; omega
theorem words_at : ∀ r : Fin 14, ∃ o : Op, ops[r.1]? = some o := fun r => ⟨ops[r.1], by rw [List.getElem?_eq_getElem (show r.1 < ops.length from r.2)]⟩
def sp_formula (n : Nat) : DSp := fun ds M Q _ => ∃ (p c q : Addr) (w k : Nat) (nms : List Str), ds = [.ref p, .ref c, .ref q, .int w, .int k] ∧ k < n ∧ 1 ≤ w ∧ w ≤ 4 ∧ Dw p c M ∧ q ≠ c ∧ M q = some (.lst (nms.map .str)) ∧ ∀ d, wfD w nms d = true → depthD d ≤ k → ∀ M', Dr c M M' → Q d M'
theorem r__law_formula (n : Nat) : ∀ ds M Q E, sp_formula (n + 1) ds M Q E → b__law_formula sp_take sp_arity (sp_formula n) (En Q) (startD 9 ds) M := by
  rintro ds M Q E ⟨p, c, q, w, k, nms, rfl, hk, h1, h4, dw, hqc, hq, h⟩
  refine ⟨by show 14 ≤ sizeLine; decide, fun pw hpw => ?_⟩
  have hwc := dw.cne hpw
  have d0 : Dr c M (updM M pw (.lst (ops.map fun o => D.str o.nm))) := .new hpw
  have hw : updM M pw (.lst (ops.map fun o => D.str o.nm)) pw = some (.lst (ops.map fun o => D.str o.nm)) := updM_same
  have leafI : ∀ r : Nat, r < 2 ^ w → ∀ M', Dr c M M' → Q (.int r) M' := fun r hr M' e => h _ (by simp only [wfD, Bool.and_eq_true, decide_eq_true_eq]; omega) (Nat.zero_le _) M' e
  have leafS : ∀ s ∈ nms, ∀ M', Dr c M M' → Q (.str s) M' := fun s hs M' e => h _ (by simp only [wfD, decide_eq_true_eq]; exact hs) (Nat.zero_le _) M' e
  have hpow : (1 : Int) * 2 ^ (w : Int).toNat = ((2 ^ w : Nat) : Int) := pow_cast w
  have hpp := Nat.two_pow_pos w
  have low : ∀ M1, Dr c M M1 → oShl (.int 1) (.int w) M1 fun x M2 => sp_take [.ref p, .ref c, x] M2 Q E := fun M1 e => ⟨cpow w (by omega) (by decide), p, c, 2 ^ w, by show [_, _, D.int (1 * 2 ^ (w : Int).toNat)] = _; rw [hpow], hpp, dw.go e, fun r hr M2 e2 => leafI r hr M2 (e.trans e2)⟩
  have hlq : ∀ M1, Dr c M M1 → M1 q = some (.lst (nms.map .str)) := fun M1 e => e.ex _ _ hqc hq
  cases k with
  | zero =>
    walk_at "if"
    walk_at "if"
    refine .inl ⟨_, hlq _ d0, fun hb => ?_, fun hb => ⟨fun hc => absurd hc (by decide), fun _ => low _ d0⟩⟩
    refine ⟨p, c, 4, rfl, by decide, dw.go d0, fun r hr M2 d2 => ⟨fun hb2 => ?_, fun hb2 => low _ (d0.trans d2)⟩⟩
    have hl := of_decide_eq_true hb
    have d2 := d0.trans d2
    refine .inl ⟨_, hlq _ d2, p, c, _, rfl, by omega, dw.go d2, fun r hr M3 d3 => ?_⟩
    rw [List.length_map] at hr
    refine .inl ⟨_, _, .str nms[r], hlq _ (d2.trans d3), rfl, atI_nat (by simp [hr]), leafS _ (List.getElem_mem hr) _ (d2.trans d3)⟩
  | succ k =>
    refine ⟨fun hc => absurd (of_decide_eq_true hc) (by omega), fun _ => ?_⟩
    refine ⟨p, c, 4, rfl, by decide, dw.go d0, fun r hr M2 d2 => ⟨fun hb2 => ?_, fun hb2 => ?_⟩⟩
    · have d0 := d0.trans d2
      refine .inl ⟨_, hlq _ d0, fun hb => ?_, fun hb => ⟨fun hc => absurd hc (by decide), fun _ => low _ d0⟩⟩
      refine ⟨p, c, 4, rfl, by decide, dw.go d0, fun r hr M2 d2 => ⟨fun hb2 => ?_, fun hb2 => low _ (d0.trans d2)⟩⟩
      have hl := of_decide_eq_true hb
      have d2 := d0.trans d2
      refine .inl ⟨_, hlq _ d2, p, c, _, rfl, by omega, dw.go d2, fun r hr M3 d3 => ?_⟩
      rw [List.length_map] at hr
      refine .inl ⟨_, _, .str nms[r], hlq _ (d2.trans d3), rfl, atI_nat (by simp [hr]), leafS _ (List.getElem_mem hr) _ (d2.trans d3)⟩
    · have d2 := d0.trans d2
      refine ⟨p, c, 14, rfl, by decide, dw.go d2, fun r hr M3 d3 => ?_⟩
      obtain ⟨o, ho⟩ := words_at ⟨r, hr⟩
      have hw3 : M3 pw = some (.lst (ops.map fun o => D.str o.nm)) := by
        apply d3.ex _ _ hwc
        rename_i d2'
        exact d2'.ex _ _ hwc hw
      have d3 := d2.trans d3
      refine .inl ⟨_, _, .str o.nm, hw3, rfl, atI_nat (by simp [ho]), ?_⟩
      refine ⟨by show 1 ≤ sizeLine; decide, fun pp hpp => ?_⟩
      have hp0 := d3.back dw.cur hpp
      refine ⟨o, _, rfl, rfl, fun M4 e4 => ?_⟩
      have h3 : o.ar ≤ 3 := by cases o <;> decide
      refine ⟨by omega, by omega, ?_⟩
      have e4' := (d3.trans (.new hpp)).trans (.ofExt e4)
      refine ⟨fun i E M' => Dr c M M' ∧ (∃ t, M' pp = some (.lst (.str o.nm :: t)) ∧ t.length = i ∧ ∀ d ∈ t, wfD w nms d = true ∧ depthD d ≤ k) ∧ ∃ x, E = [some (.ref p), some (.ref c), some (.ref q), some (.int w), some (.int ((k + 1 : Nat) : Int)), some (.ref pw), some (.str o.nm), some (.ref pp), x], ⟨e4', ⟨[], e4 _ _ updM_same, rfl, by simp⟩, none, rfl⟩, fun _ _ _ _ => trivial, ?_, ?_⟩
      · rintro i E M' d hd ⟨hx, ⟨t, ht, hl, hall⟩, x, rfl⟩
        obtain ⟨hi, rfl⟩ := rng_at hd
        have hi : i < o.ar := by have : i < (o.ar : Int).toNat := hi; omega
        refine ⟨⟨_, ht⟩, p, c, q, w, k, nms, ?_, by omega, h1, h4, dw.go hx, hqc, hlq _ hx, fun d hd1 hd2 M5 e5 => ?_⟩
        · show [_, _, _, _, D.int (((k + 1 : Nat) : Int) - 1)] = _
          rw [show (((k + 1 : Nat) : Int) - 1) = (k : Int) by omega]
        refine ⟨_, e5.ex _ _ (dw.cne hp0) ht, tolist (by simp; omega), (hx.trans e5).mut dw.cur hp0, ⟨t ++ [d], updM_same, by simp [hl], fun e he => ?_⟩, _, rfl⟩
        rcases List.mem_append.mp he with he | he
        · exact hall e he
        · cases List.mem_singleton.mp he; exact ⟨hd1, hd2⟩
      · rintro E M' ⟨hx, ⟨t, ht, hl, hall⟩, x, rfl⟩
        rw [rng_len] at hl
        have hl : t.length = (o.ar : Int).toNat := hl
        refine ⟨_, ht, h _ (wfD_mk (by omega) fun d hd => (hall d hd).1) ?_ _ hx⟩
        rw [depthD_tup]
        have := depthDs_le fun d hd => (hall d hd).2
        show depthDs t + 1 ≤ k + 1
        omega
end Rd

set_option Elab.async false
set_option linter.all false
set_option autoImplicit false
set_option maxRecDepth 100000
set_option maxHeartbeats 4000000
/-! readings: the law's own meaning of a formula -/
namespace Rd
open PySem PySem.Spec PyProof.Rows L2 DH Bd
local macro_rules | `(tactic| walk_at "if") => `(tactic| first | (refine ⟨fun _ => ?_, fun hc => absurd hc (by decide)⟩) | (refine ⟨fun hc => absurd hc (by decide), fun _ => ?_⟩))
theorem Ext.lst {M M' : Mm} (e : Ext M M') {a : Addr} {o : MO} (h : M a = some o) : M' a = some o := e a o h
theorem map_snoc {α β : Type} (f : α → β) {l : List α} {i : Nat} {x : α} (h : l[i]? = some x) : (l.take (i + 1)).map f = (l.take i).map f ++ [f x] := by rw [take_snoc h, List.map_append]; rfl
def sp_lvalue (n : Nat) : DSp := fun ds M Q _ => ∃ (d : D) (w : Nat) (a : Addr) (ρ : Str → Nat) (nms : List Str), ds = [d, .int w, .ref a] ∧ 1 ≤ w ∧ w ≤ 4 ∧ wfD w nms d = true ∧ depthD d < n ∧ EnvM M a w ρ nms ∧ RetV M Q (.int (evD w ρ d))
theorem ev1 : ∀ w : Fin 5, ∀ x : Fin 16, 1 ≤ w.1 → x.1 < 2 ^ w.1 → (1 * 2 ^ (w.1 : Int).toNat - 1 - (x.1 : Int)) = ((Op.not.v w.1 [x.1] : Nat) : Int) ∧ ((0 - (x.1 : Int)) % (1 * 2 ^ (w.1 : Int).toNat)) = ((Op.neg.v w.1 [x.1] : Nat) : Int) := by decide +kernel
theorem r__law_value (n : Nat) : ∀ ds M Q E, sp_lvalue (n + 1) ds M Q E → b__law_value (sp_lvalue n) sp_two (En Q) (startD 5 ds) M := by
  rintro ds M Q E ⟨d, w, a, ρ, nms, rfl, hw, h4, hd, hn, he, h⟩
  cases d with
  | int i =>
    walk_at "if"
    refine qi (h M (Ext.refl M)) ?_
    simp only [wfD, Bool.and_eq_true, decide_eq_true_eq] at hd
    simp only [evD]; omega
  | str s =>
    walk_at "if"
    walk_at "if"
    obtain ⟨kvs, h1, h2⟩ := he
    simp only [wfD, decide_eq_true_eq] at hd
    refine .inr ⟨kvs, .inr s, _, h1, rfl, (h2 s hd).1, ?_⟩
    refine qi (h M (Ext.refl M)) ?_
    simp only [evD]
  | tup ds =>
    obtain ⟨o, t, rfl, hl, ht, hev⟩ := op_inv hd
    walk_at "if"
    walk_at "if"
    intro p hp
    have hlt : ∀ x ∈ t.map (evD w ρ), x < 2 ^ w := fun x hx => by
      obtain ⟨d, hd, rfl⟩ := List.mem_map.mp hx
      obtain ⟨kvs, h1, h2⟩ := he
      exact ev_lt hw (fun s hs => (h2 s hs).2) d (ht d hd)
    refine ⟨fun i acc M' => Ext M M' ∧ M' p = some (.lst acc) ∧ acc = (t.take i).map (fun d => D.int (evD w ρ d : Nat)), ⟨Ext.new hp, updM_same, rfl⟩, fun _ _ _ _ => trivial, ?_, ?_⟩
    · rintro i acc M' d hd ⟨hx, hl2, rfl⟩
      rw [cut1] at hd
      have hd : t[i]? = some d := hd
      have hm := mem_at hd
      have h1 := depthD_mem hm
      rw [depthD_tup] at hn
      have hn : depthDs t + 1 < n + 1 := hn
      refine ⟨fun _ => ⟨d, w, a, ρ, nms, rfl, hw, h4, ht d hm, by omega, he.ext hx, fun M1 e1 => ?_⟩, fun hc => absurd hc (by decide)⟩
      have hlt := lt_at hd
      have h3 : o.ar ≤ 3 := by cases o <;> decide
      refine ⟨e1 _ _ hl2, ?_, (hx.trans e1).mut hp, updM_same, (map_snoc _ hd).symm⟩
      rw [List.length_map, List.length_take]
      exact Nat.lt_of_le_of_lt (show min i t.length ≤ 3 by omega) (by decide)
    · rintro acc M' ⟨hx, hl2, rfl⟩
      rw [cut1] at hl2
      have hl2 : M' p = some (.lst ((t.take t.length).map fun d => D.int (evD w ρ d : Nat))) := hl2
      rw [List.take_length, ← wds_map] at hl2
      have h := h M' hx
      rw [hev] at h
      generalize hxs : t.map (evD w ρ) = xs at hl2 h hlt
      have hlx : xs.length = o.ar := by rw [← hxs, List.length_map]; exact hl
      refine ⟨_, at0, ?_⟩
      have one : o.ar = 1 → ∃ x, xs = [x] := fun e => by rw [e] at hlx; match xs, hlx with
        | [x], _ => exact ⟨x, rfl⟩
      have two : o.ar = 2 → ∃ x y, xs = [x, y] := fun e => by rw [e] at hlx; match xs, hlx with
        | [x, y], _ => exact ⟨x, y, rfl⟩
      by_cases hn : o = .not
      · subst hn
        obtain ⟨x, rfl⟩ := one rfl
        walk_at "if"
        refine ⟨cpow w (by omega) (by decide), .inl ⟨_, _, _, hl2, rfl, at0, ?_⟩⟩
        exact qi h (ev1 ⟨w, by omega⟩ ⟨x, sm h4 (hlt x (by simp))⟩ hw (hlt x (by simp))).1
      refine ⟨fun hc => absurd (of_decide_eq_true hc) (by cases o <;> first | exact absurd rfl hn | decide), fun _ => ⟨_, at0, ?_⟩⟩
      by_cases hg : o = .neg
      · subst hg
        obtain ⟨x, rfl⟩ := one rfl
        walk_at "if"
        refine .inl ⟨_, _, _, hl2, rfl, at0, cpow w (by omega) (by decide), ?_⟩
        have hp : (0 : Int) < 1 * 2 ^ (w : Int).toNat := by rw [pow_cast]; have := Nat.two_pow_pos w; omega
        exact ⟨hp, qi h (ev1 ⟨w, by omega⟩ ⟨x, sm h4 (hlt x (by simp))⟩ hw (hlt x (by simp))).2⟩
      refine ⟨fun hc => absurd (of_decide_eq_true hc) (by cases o <;> first | exact absurd rfl hg | decide), fun _ => ⟨_, at0, ?_⟩⟩
      by_cases hk : o = .pick
      · subst hk
        obtain ⟨x, y, z, rfl⟩ : ∃ x y z, xs = [x, y, z] := by
          match xs, hlx with
          | [x, y, z], _ => exact ⟨x, y, z, rfl⟩
        walk_at "if"
        refine .inl ⟨_, _, _, hl2, rfl, at0, ?_⟩
        by_cases hz : x = 0
        · subst hz
          exact .inl ⟨_, _, _, hl2, rfl, (rfl : atI (wds [0, y, z]) 2 = _), h⟩
        · have hb : decide ((x : Int) = 0) = false := decide_eq_false (by omega)
          have h : Q (.int (y : Int)) M' := qi h (by show (y : Int) = ((if x = 0 then z else y : Nat) : Int); rw [if_neg hz])
          refine .inl ⟨_, (1 + if decide ((x : Int) = 0) = true then 1 else 0), .int y, hl2, rfl, ?_, h⟩
          rw [hb]; rfl
      refine ⟨fun hc => absurd (of_decide_eq_true hc) (by cases o <;> first | exact absurd rfl hk | decide), fun _ => ⟨_, at0, ?_⟩⟩
      have h2 : o.ar = 2 := by cases o <;> first | rfl | exact absurd rfl hn | exact absurd rfl hg | exact absurd rfl hk
      obtain ⟨x, y, rfl⟩ := two h2
      refine .inl ⟨_, _, _, hl2, rfl, at0, .inl ⟨_, _, _, hl2, rfl, (rfl : atI (wds [x, y]) 1 = _), ?_⟩⟩
      exact ⟨o, w, x, y, rfl, h2, hw, h4, hlt x (by simp), hlt y (by simp), h⟩
  | _ => simp [wfD] at hd
theorem sum_sizes : ∀ t : List D, (t.map fun d => (sizeD d : Int)).sum = (sizeDs t : Int)
  | [] => rfl
  | d :: t => by
    simp only [List.map_cons, List.sum_cons, sum_sizes t, sizeDs]; omega
def sp_lsize (n : Nat) : DSp := fun ds M Q _ => ∃ (d : D) (w : Nat) (nms : List Str), ds = [d] ∧ wfD w nms d = true ∧ depthD d < n ∧ RetV M Q (.int (sizeD d))
theorem ar3 (o : Op) : o.ar ≤ 3 ∧ 1 ≤ o.ar := by cases o <;> decide
theorem r__law_size (n : Nat) : ∀ ds M Q E, sp_lsize (n + 1) ds M Q E → b__law_size (sp_lsize n) (En Q) (startD 2 ds) M := by
  rintro ds M Q E ⟨d, w, nms, rfl, hd, hn, h⟩
  cases d with
  | int i =>
    walk_at "if"
    exact h M (Ext.refl M)
  | str s =>
    walk_at "if"
    exact h M (Ext.refl M)
  | tup ds =>
    obtain ⟨o, t, rfl, hl, ht, hev⟩ := op_inv hd
    have har := ar3 o
    walk_at "if"
    intro p hp
    refine ⟨fun i acc M' => Ext M M' ∧ M' p = some (.lst acc) ∧ acc = (t.take i).map (fun d => D.int (sizeD d : Int)), ⟨Ext.new hp, updM_same, rfl⟩, fun _ _ _ _ => trivial, ?_, ?_⟩
    · rintro i acc M' d hd ⟨hx, hl2, rfl⟩
      rw [cut1] at hd
      have hd : t[i]? = some d := hd
      have hm := mem_at hd
      have h1 := depthD_mem hm
      rw [depthD_tup] at hn
      have hn : depthDs t + 1 < n + 1 := hn
      refine ⟨fun _ => ⟨d, w, nms, rfl, ht d hm, by omega, fun M1 e1 => ?_⟩, fun hc => absurd hc (by decide)⟩
      exact ⟨e1 _ _ hl2, tolist (by rw [List.length_map, List.length_take]; omega), (hx.trans e1).mut hp, updM_same, (map_snoc _ hd).symm⟩
    · rintro acc M' ⟨hx, hl2, rfl⟩
      rw [cut1] at hl2
      have hl2 : M' p = some (.lst ((t.take t.length).map fun d => D.int (sizeD d : Int))) := hl2
      rw [List.take_length] at hl2
      refine ⟨p, t.map (fun d => (sizeD d : Int)), rfl, by rw [List.map_map]; exact hl2, ?_⟩
      refine qi (h M' hx) ?_
      rw [sum_sizes, sizeD_tup]
      show 1 + (sizeDs t : Int) = ((1 + sizeDs t : Nat) : Int)
      omega
  | _ => simp [wfD] at hd
end Rd

set_option Elab.async false
set_option linter.all false
set_option autoImplicit false
set_option maxRecDepth 100000
set_option maxHeartbeats 4000000
/-! readings: the law's own names and substitution -/
namespace Rd
open PySem PySem.Spec PyProof.Rows L2 DH Bd
local macro_rules | `(tactic| walk_at "if") => `(tactic| first | (refine ⟨fun _ => ?_, fun hc => absurd hc (by decide)⟩) | (refine ⟨fun hc => absurd hc (by decide), fun _ => ?_⟩))
end Rd

set_option Elab.async false
set_option linter.all false
set_option autoImplicit false
set_option maxRecDepth 100000
set_option maxHeartbeats 4000000
/-! readings: rows -/
namespace Rd
open PySem PySem.Spec PyProof.Rows L2 DH Bd
local macro_rules | `(tactic| walk_at "if") => `(tactic| first | (refine ⟨fun _ => ?_, fun hc => absurd hc (by decide)⟩) | (refine ⟨fun hc => absurd hc (by decide), fun _ => ?_⟩))
end Rd

set_option Elab.async false
set_option linter.all false
set_option autoImplicit false
set_option maxRecDepth 100000
set_option maxHeartbeats 4000000
/-! readings: texts -/
namespace Rd
open PySem PySem.Spec PyProof.Rows L2 DH Bd
local macro_rules | `(tactic| walk_at "if") => `(tactic| first | (refine ⟨fun _ => ?_, fun hc => absurd hc (by decide)⟩) | (refine ⟨fun hc => absurd hc (by decide), fun _ => ?_⟩))
end Rd

set_option Elab.async false
set_option linter.all false
set_option autoImplicit false
set_option maxRecDepth 100000
set_option maxHeartbeats 4000000
/-! readings: shapes the law draws -/
namespace Rd
open PySem PySem.Spec PyProof.Rows L2 DH Bd
local macro_rules | `(tactic| walk_at "if") => `(tactic| first | (refine ⟨fun _ => ?_, fun hc => absurd hc (by decide)⟩) | (refine ⟨fun hc => absurd hc (by decide), fun _ => ?_⟩))
theorem all_bool {p q : D → Bool} : ∀ {t : List D}, (∀ d ∈ t, p d = q d) → t.all p = t.all q
  | [], _ => rfl
  | d :: t, h => by rw [List.all_cons, List.all_cons, h d (by simp), all_bool fun e he => h e (List.mem_cons_of_mem _ he)]
theorem depths_all {k : Nat} : ∀ t : List D, t.all (fun d => decide (depthD d ≤ k)) = decide (depthDs t ≤ k)
  | [] => by simp [depthDs]
  | d :: t => by
    rw [List.all_cons, depths_all t, Bool.eq_iff_iff]
    simp only [Bool.and_eq_true, decide_eq_true_eq, depthDs]
    exact ⟨fun h => decide_eq_true (Nat.max_le.mpr h), fun h => Nat.max_le.mp (of_decide_eq_true h)⟩
theorem shaped_wf {w : Nat} {nms : List Str} : ∀ (k : Nat) (d : D), wfD w nms d = true → shapedD w nms k d = decide (depthD d ≤ k)
  | k, .int i, h => by
    simp only [wfD] at h
    cases k <;> simp only [shapedD, h, depthD] <;> simp
  | k, .str s, h => by
    simp only [wfD] at h
    cases k <;> simp only [shapedD, h, depthD] <;> simp
  | 0, .tup ds, h => by
    obtain ⟨o, t, rfl, _⟩ := op_inv h
    rw [depthD_tup]; simp [shapedD]
  | k + 1, .tup ds, h => by
    obtain ⟨o, t, rfl, hl, ht, _⟩ := op_inv h
    simp only [shapedD, opOf_of, hl, beq_self_eq_true, Bool.true_and]
    rw [all_bool (q := fun d => decide (depthD d ≤ k)) fun d hd => shaped_wf k d (ht d hd), depths_all, depthD_tup]
    rw [Bool.eq_iff_iff]
    show _ ↔ decide (depthDs t + 1 ≤ k + 1) = true
    simp
  | k, .non, h => by simp [wfD] at h
  | k, .bl _, h => by simp [wfD] at h
  | k, .ref _, h => by simp [wfD] at h
  | k, .ty _, h => by simp [wfD] at h
  | k, .kd _, h => by simp [wfD] at h
  | k, .fl _, h => by simp [wfD] at h
mutual
theorem wf_tree {w : Nat} {nms : List Str} : ∀ d : D, wfD w nms d = true → tree d = true
  | .int _, _ => by simp [tree]
  | .str _, _ => by simp [tree]
  | .tup (.str s :: t), h => by
    simp only [wfD] at h
    split at h
    · have := wf_trees t (Bool.and_eq_true_iff.mp h).2
      simp only [tree, trees, this, Bool.true_and]
    · cases h
  | .tup [], h => by simp [wfD] at h
  | .tup (.int _ :: _), h => by simp [wfD] at h
  | .tup (.tup _ :: _), h => by simp [wfD] at h
  | .tup (.non :: _), h => by simp [wfD] at h
  | .tup (.bl _ :: _), h => by simp [wfD] at h
  | .tup (.ref _ :: _), h => by simp [wfD] at h
  | .tup (.ty _ :: _), h => by simp [wfD] at h
  | .tup (.kd _ :: _), h => by simp [wfD] at h
  | .tup (.fl _ :: _), h => by simp [wfD] at h
  | .non, h => by simp [wfD] at h
  | .bl _, h => by simp [wfD] at h
  | .ref _, h => by simp [wfD] at h
  | .ty _, h => by simp [wfD] at h
  | .kd _, h => by simp [wfD] at h
  | .fl _, h => by simp [wfD] at h
theorem wf_trees {w : Nat} {nms : List Str} : ∀ t : List D, wfDs w nms t = true → trees t = true
  | [], _ => by simp [trees]
  | d :: t, h => by
    simp only [wfDs, Bool.and_eq_true] at h
    simp only [trees, wf_tree d h.1, wf_trees t h.2, Bool.and_self]
end
/-! ### spoilt formulas -/
end Rd

set_option Elab.async false
set_option linter.all false
set_option autoImplicit false
set_option maxRecDepth 100000
set_option maxHeartbeats 4000000
/-! readings: the law's operations -/
namespace Rd
open PySem PySem.Spec PyProof.Rows L2 DH Bd
local macro_rules | `(tactic| walk_at "if") => `(tactic| first | (refine ⟨fun _ => ?_, fun hc => absurd hc (by decide)⟩) | (refine ⟨fun hc => absurd hc (by decide), fun _ => ?_⟩))
end Rd

set_option Elab.async false
set_option linter.all false
set_option autoImplicit false
set_option maxRecDepth 100000
set_option maxHeartbeats 4000000
/-! readings: dicts and equality, laws -/
namespace Rd
open PySem PySem.Spec PyProof.Rows L2 DH Bd
/-! ### dicts -/
theorem valD_cons (k0 k : Key) (d0 : D) (r : List (Key × D)) : valD ((k0, d0) :: r) k = if k0 = k then some d0 else valD r k := by
  by_cases e : k0 = k
  · simp [valD, e]
  · simp [valD, e]
theorem valD_map (k : Key) (v : D) (k' : Key) : ∀ kvs : List (Key × D), valD (kvs.map fun kv => if kv.1 = k then (kv.1, v) else kv) k' = if k' = k then (if (kvs.any fun kv => decide (kv.1 = k)) = true then some v else none) else valD kvs k'
  | [] => by simp [valD]
  | (k0, d0) :: r => by
    rw [List.map_cons, List.any_cons]
    by_cases e : k0 = k
    · subst e
      have e0 : (if (k0, d0).1 = k0 then ((k0, d0).1, v) else (k0, d0)) = (k0, v) := if_pos rfl
      rw [e0, valD_cons, valD_map k0 v k' r, valD_cons]
      by_cases e2 : k0 = k'
      · subst e2; simp
      · rw [if_neg e2, if_neg (Ne.symm e2), if_neg (Ne.symm e2), if_neg e2]
    · have e0 : (if (k0, d0).1 = k then ((k0, d0).1, v) else (k0, d0)) = (k0, d0) := if_neg e
      rw [e0, valD_cons, valD_map k v k' r, valD_cons]
      by_cases e2 : k0 = k'
      · subst e2; rw [if_pos rfl, if_neg e, if_pos rfl]
      · rw [if_neg e2, if_neg e2, show decide ((k0, d0).1 = k) = false from decide_eq_false e, Bool.false_or]
theorem valD_any (k : Key) : ∀ kvs : List (Key × D), (kvs.any fun kv => decide (kv.1 = k)) = (valD kvs k).isSome
  | [] => by simp [valD]
  | (k0, d0) :: r => by
    rw [List.any_cons, valD_cons, valD_any k r]
    by_cases e : k0 = k
    · simp [e]
    · simp [e]
theorem valD_app (k : Key) (v : D) (k' : Key) : ∀ kvs : List (Key × D), valD (kvs ++ [(k, v)]) k' = match valD kvs k' with
    | some d => some d
    | none => if k = k' then some v else none
  | [] => by rw [List.nil_append, valD_cons]; simp [valD]
  | (k0, d0) :: r => by
    rw [List.cons_append, valD_cons, valD_cons, valD_app k v k' r]
    by_cases e : k0 = k'
    · rw [if_pos e, if_pos e]
    · rw [if_neg e, if_neg e]
theorem putD_val (kvs : List (Key × D)) (k : Key) (v : D) (k' : Key) : valD (putD kvs k v) k' = if k' = k then some v else valD kvs k' := by
  unfold putD
  by_cases h : (kvs.any fun kv => decide (kv.1 = k)) = true
  · rw [if_pos h, valD_map, if_pos h]
  · rw [if_neg h, valD_app]
    rw [valD_any] at h
    by_cases e : k' = k
    · subst e
      rw [if_pos rfl]
      cases q : valD kvs k' with
      | none => simp
      | some d => rw [q] at h; simp at h
    · rw [if_neg e, if_neg (Ne.symm e)]
      cases valD kvs k' <;> rfl
theorem putD_len (kvs : List (Key × D)) (k : Key) (v : D) : (putD kvs k v).length ≤ kvs.length + 1 := by
  unfold putD
  split
  · rw [List.length_map]; omega
  · rw [List.length_append]; simp
/-! ### data that can be compared -/
structure OkD (n : Nat) (d : D) : Prop where
  pu : pureD d = true
  la : (toPD d).canLay0 = true
  de : (toPD d).depth ≤ n
theorem OkD.shaped {n : Nat} {d : D} (h : OkD n d) (hn : n ≤ 64) : SeqAt.shaped (toPD d) = true := by
  unfold SeqAt.shaped
  rw [h.la, decide_eq_true (Nat.le_trans h.de hn)]; rfl
theorem OkD.mono {n m : Nat} {d : D} (h : OkD n d) (l : n ≤ m) : OkD m d := ⟨h.pu, h.la, Nat.le_trans h.de l⟩
theorem ok_int (i : Int) (n : Nat) : OkD n (.int i) := ⟨rfl, rfl, Nat.zero_le _⟩
theorem ok_str {s : Str} (h : PySem.PyData.strOk s = true) (n : Nat) : OkD n (.str s) := ⟨rfl, h, Nat.zero_le _⟩
theorem ok_list {n : Nat} : ∀ {ds : List D}, (∀ d ∈ ds, OkD n d) → pureDs ds = true ∧ PyData.canLayAll0 (toPDs ds) = true ∧ PyData.depthAll (toPDs ds) ≤ n
  | [], _ => ⟨rfl, rfl, Nat.zero_le _⟩
  | d :: ds, h => by
    have h1 := h d (by simp)
    have h2 := ok_list fun e he => h e (List.mem_cons_of_mem _ he)
    refine ⟨?_, ?_, ?_⟩
    · simp only [pureDs, h1.pu, h2.1, Bool.and_self]
    · simp only [toPDs, PyData.canLayAll0, h1.la, h2.2.1, Bool.and_self]
    · simp only [toPDs, PyData.depthAll]
      exact Nat.max_le.mpr ⟨h1.de, h2.2.2⟩
theorem ok_tup {n : Nat} {ds : List D} (h : ∀ d ∈ ds, OkD n d) : OkD (n + 1) (.tup ds) := by
  obtain ⟨h1, h2, h3⟩ := ok_list h
  refine ⟨by simp only [pureD, h1], by simp only [toPD, PyData.canLay0, h2], by simp only [toPD, PyData.depth]; omega⟩
mutual
theorem vw_pure {M : Mm} : ∀ d : D, pureD d = true → Vw M d (toPD d)
  | .non, _ => .non
  | .bl b, _ => .bl b
  | .int i, _ => .int i
  | .str s, _ => .str s
  | .tup ds, h => by
    have h : pureDs ds = true := by simpa only [pureD] using h
    obtain ⟨h1, h2⟩ := vw_pures (M := M) ds h
    simp only [toPD]
    exact .tup _ h1 h2
  | .ref _, h => by simp [pureD] at h
  | .ty _, h => by simp [pureD] at h
  | .kd _, h => by simp [pureD] at h
  | .fl _, h => by simp [pureD] at h
theorem vw_pures {M : Mm} : ∀ ds : List D, pureDs ds = true → ds.length = (toPDs ds).length ∧ ∀ (i : Nat) d p, ds[i]? = some d → (toPDs ds)[i]? = some p → Vw M d p
  | [], _ => ⟨rfl, fun i d p h => by simp at h⟩
  | x :: xs, h => by
    simp only [pureDs, Bool.and_eq_true] at h
    have hx := vw_pure (M := M) x h.1
    obtain ⟨h1, h2⟩ := vw_pures (M := M) xs h.2
    refine ⟨by simp only [toPDs, List.length_cons, h1], fun i d p e1 e2 => ?_⟩
    simp only [toPDs] at e2
    cases i with
    | zero =>
      simp at e1 e2
      subst e1; subst e2; exact hx
    | succ i =>
      simp at e1 e2
      exact h2 i d p e1 e2
end
theorem sizes_le {B : Nat} : ∀ {t : List D}, (∀ d ∈ t, sizeD d ≤ B) → sizeDs t ≤ t.length * B
  | [], _ => by simp [sizeDs]
  | d :: t, h => by
    have h1 := h d (by simp)
    have h2 := sizes_le fun e he => h e (List.mem_cons_of_mem _ he)
    simp only [sizeDs, List.length_cons, Nat.succ_mul]; omega
/-! ### lists of texts, unequal or equal -/
end Rd

set_option Elab.async false
set_option linter.all false
set_option autoImplicit false
set_option maxRecDepth 100000
set_option maxHeartbeats 8000000
/-! readings: the law -/
namespace Rd
open PySem PySem.Spec PyProof.Rows L2 DH Bd
local macro_rules | `(tactic| walk_at "if") => `(tactic| first | (refine ⟨fun _ => ?_, fun hc => absurd hc (by decide)⟩) | (refine ⟨fun hc => absurd hc (by decide), fun _ => ?_⟩))
def sp_law : DSp := fun ds M Q _ => ∃ ns : List Int, ds = [.fl (ns.map D.int)] ∧ ns.length ≤ 63 ∧ ∀ M', Q (.bl true) M'
end Rd

set_option Elab.async false
set_option linter.all false
set_option autoImplicit false
set_option maxRecDepth 100000
set_option maxHeartbeats 4000000
/-! readings: texts that are valid -/
namespace Rd
open PySem PySem.Spec PyProof.Rows L2 DH Bd
local macro_rules | `(tactic| walk_at "if") => `(tactic| first | (refine ⟨fun _ => ?_, fun hc => absurd hc (by decide)⟩) | (refine ⟨fun hc => absurd hc (by decide), fun _ => ?_⟩))
structure TX where
  w : Nat
  ins : List Str
  needs : List D
  lets : List (Str × D)
  outs : List (Nat × D)
def TX.known (t : TX) (i : Nat) : List Str := t.ins ++ (t.lets.take i).map Prod.fst
def okF (w : Nat) (nms : List Str) (d : D) : Prop := wfD w nms d = true ∧ depthD d ≤ 6 ∧ sizeD d ≤ 15
def goodN (s : Str) : Prop := (isNameS s && !isOpS s) = true ∧ s.length ≤ 100
structure TX.Ok (t : TX) : Prop where
  w1 : 1 ≤ t.w
  w4 : t.w ≤ 4
  nd : t.ins.Nodup
  nm : ∀ s ∈ t.ins, goodN s
  i4 : t.ins.length ≤ 4
  bits : t.w * t.ins.length ≤ 8
  n2 : t.needs.length ≤ 2
  nf : ∀ d ∈ t.needs, okF t.w t.ins d
  l60 : t.lets.length ≤ 60
  ln : ∀ (i : Nat) (p : Str × D), t.lets[i]? = some p → goodN p.1 ∧ ¬ p.1 ∈ t.known i ∧ okF t.w (t.known i) p.2
  o4 : t.outs.length ≤ 4
  on : ∀ (i : Nat) (p : Nat × D), t.outs[i]? = some p → p.1 ≤ 3 ∧ okF t.w (t.known t.lets.length) p.2
  oo : ∀ (i : Nat) (p q : Nat × D), t.outs[i]? = some p → t.outs[i + 1]? = some q → p.1 < q.1
def letD (l : List (Str × D)) : List D := l.map fun p => .tup [.str p.1, p.2]
def outD (l : List (Nat × D)) : List D := l.map fun p => .tup [.int (p.1 : Nat), p.2]
def TX.fs (t : TX) : List (Str × D) := [("width", .int t.w), ("inputs", .tup (t.ins.map .str)), ("needs", .tup t.needs), ("lets", .tup (letD t.lets)), ("outs", .tup (outD t.outs))]
def ClT (cl : CF) (C : Addr) : Prop := ∀ f ∈ (["width", "inputs", "needs", "lets", "outs"] : List Str), cl C f
structure TxM (cl : CF) (C : Addr) (M : Mm) (a : Addr) (t : TX) : Prop where
  at_ : M a = some (.ins C t.fs)
  cl : ClT cl C
theorem TxM.ext {cl : CF} {C a : Addr} {M M' : Mm} {t : TX} (h : TxM cl C M a t) (e : Ext M M') : TxM cl C M' a t := ⟨e _ _ h.at_, h.cl⟩
theorem getE {α : Type} {l : List α} {i : Nat} (h : i < l.length) : l[i]? = some l[i] := List.getElem?_eq_getElem h
theorem cutTo (α : Type) (l : List α) (i : Nat) (h : i ≤ l.length) : cutL α l none (some (i : Int)) = l.take i := by
  unfold cutL HT.sIx
  have : ¬ ((i : Int) < 0) := by omega
  simp [this]
end Rd

set_option Elab.async false
set_option linter.all false
set_option autoImplicit false
set_option maxRecDepth 100000
set_option maxHeartbeats 4000000
/-! readings: a text is made, its rows, its outputs -/
namespace Rd
open PySem PySem.Spec PyProof.Rows L2 DH Bd
local macro_rules | `(tactic| walk_at "if") => `(tactic| first | (refine ⟨fun _ => ?_, fun hc => absurd hc (by decide)⟩) | (refine ⟨fun hc => absurd hc (by decide), fun _ => ?_⟩))
/-! ### making a text -/
/-- all but a stays -/
def But (a : Addr) (M M' : Mm) : Prop := ∀ b o, b ≠ a → M b = some o → M' b = some o
theorem But.refl (a : Addr) (M : Mm) : But a M M := fun _ _ _ h => h
theorem But.trans {a : Addr} {M M1 M2 : Mm} (x : But a M M1) (y : But a M1 M2) : But a M M2 := fun b o n h => y b o n (x b o n h)
theorem But.set {a : Addr} {M M' : Mm} {o : MO} (x : But a M M') : But a M (updM M' a o) := fun b u n h => by rw [updM_ne n]; exact x b u n h
theorem But.ofExt {a : Addr} {M M' : Mm} (e : Ext M M') : But a M M' := fun b o _ h => e b o h
/-! ### rows and outputs -/
def EnvL (M : Mm) (a : Addr) (w : Nat) (ρ : Str → Nat) (nms : List Str) (n : Nat) : Prop := ∃ kvs, M a = some (.dk kvs) ∧ kvs.length ≤ n ∧ ∀ s ∈ nms, valD kvs (.inr s) = some (.int (ρ s)) ∧ ρ s < 2 ^ w
theorem EnvL.env {M : Mm} {a : Addr} {w : Nat} {ρ : Str → Nat} {nms : List Str} {n : Nat} (h : EnvL M a w ρ nms n) : EnvM M a w ρ nms := let ⟨kvs, h1, _, h2⟩ := h; ⟨kvs, h1, h2⟩
theorem EnvL.ext {M M' : Mm} {a : Addr} {w : Nat} {ρ : Str → Nat} {nms : List Str} {n : Nat} (h : EnvL M a w ρ nms n) (e : Ext M M') : EnvL M' a w ρ nms n := let ⟨kvs, h1, h2⟩ := h; ⟨kvs, e _ _ h1, h2⟩
/-- one more name -/
theorem EnvL.put {M' : Mm} {a : Addr} {w : Nat} {ρ ρ' : Str → Nat} {nms : List Str} {n : Nat} {s : Str} {v : Nat} {kvs : List (Key × D)} (hl : kvs.length ≤ n) (h : ∀ s ∈ nms, valD kvs (.inr s) = some (.int (ρ s)) ∧ ρ s < 2 ^ w) (hs : ¬ s ∈ nms) (hv : v < 2 ^ w) (h1 : ρ' s = v) (h2 : ∀ s' ∈ nms, ρ' s' = ρ s') (hm : M' a = some (.dk (putD kvs (.inr s) (.int v)))) : EnvL M' a w ρ' (nms ++ [s]) (n + 1) := by
  refine ⟨_, hm, by have := putD_len kvs (.inr s) (.int v); omega, fun s' hs' => ?_⟩
  rw [putD_val]
  rcases List.mem_append.mp hs' with hs' | hs'
  · have : s' ≠ s := fun e => hs (e ▸ hs')
    rw [if_neg (fun z => this (by cases z; rfl)), h2 s' hs']
    exact h s' hs'
  · cases List.mem_singleton.mp hs'
    rw [if_pos rfl, h1]
    exact ⟨rfl, hv⟩
theorem wds_at {xs : List Nat} {i : Nat} {d : D} (h : (wds xs)[i]? = some d) : ∃ x, xs[i]? = some x ∧ d = .int (x : Nat) := by
  rw [List.getElem?_map] at h
  obtain ⟨x, h1, h2⟩ := Option.map_eq_some_iff.mp h
  exact ⟨x, h1, h2.symm⟩
def TX.rows (t : TX) : Nat := (2 ^ t.w) ^ t.ins.length
theorem TX.Ok.rows {t : TX} (ok : t.Ok) : t.rows ≤ 256 := by
  unfold TX.rows
  rw [← Nat.pow_mul]
  exact Nat.pow_le_pow_right (n := 2) (by decide) ok.bits
end Rd

set_option Elab.async false
set_option linter.all false
set_option autoImplicit false
set_option maxRecDepth 100000
set_option maxHeartbeats 4000000
/-! readings: the law of k87, its own meaning of a text -/
namespace Rd
open PySem PySem.Spec PyProof.Rows L2 DH Bd
local macro_rules | `(tactic| walk_at "if") => `(tactic| first | (refine ⟨fun _ => ?_, fun hc => absurd hc (by decide)⟩) | (refine ⟨fun hc => absurd hc (by decide), fun _ => ?_⟩))
structure DaM (M : Mm) (a : Addr) (t : TX) : Prop where
  ex : ∃ a1 a2 a3 a4, M a = some (.lst [.int t.w, .ref a1, .ref a2, .ref a3, .ref a4]) ∧ M a1 = some (.lst (t.ins.map .str)) ∧ M a2 = some (.lst t.needs) ∧ M a3 = some (.lst (letD t.lets)) ∧ M a4 = some (.lst (outD t.outs))
theorem DaM.ext {M M' : Mm} {a : Addr} {t : TX} (h : DaM M a t) (e : Ext M M') : DaM M' a t := let ⟨a1, a2, a3, a4, h0, h1, h2, h3, h4⟩ := h.ex; ⟨a1, a2, a3, a4, e _ _ h0, e _ _ h1, e _ _ h2, e _ _ h3, e _ _ h4⟩
theorem ne_same {n : Nat} {x : D} {M : Mm} {Q : DQ} (h : OkD n x) (hn : n ≤ 64) (q : Q (.bl false) M) : oNe x x M Q := by
  have gen : scalEq x x = none → oNe x x M Q := fun e => by
    unfold oNe
    rw [e]
    refine ⟨_, _, vw_pure x h.pu, vw_pure x h.pu, h.shaped hn, h.shaped hn, ?_⟩
    rw [SeqAt.eqv_refl _ h.la]; exact q
  cases x with
  | non => exact q
  | bl b => exact qb q (by simp)
  | int i => exact qb q (by simp)
  | str s => exact qb q (by simp)
  | tup ds => exact gen rfl
  | ref a => exact gen rfl
  | ty n => exact gen rfl
  | kd k => exact gen rfl
  | fl k => exact gen rfl
theorem ok_wds (xs : List Nat) : OkD 1 (.tup (wds xs)) := ok_tup fun d hd => by
  obtain ⟨x, _, rfl⟩ := List.mem_map.mp hd
  exact ok_int _ _
end Rd

set_option Elab.async false
set_option linter.all false
set_option autoImplicit false
set_option maxRecDepth 100000
set_option maxHeartbeats 8000000
/-! readings: the law of k87, its draw of a text -/
namespace Rd
open PySem PySem.Spec PyProof.Rows L2 DH Bd
local macro_rules | `(tactic| walk_at "if") => `(tactic| first | (refine ⟨fun _ => ?_, fun hc => absurd hc (by decide)⟩) | (refine ⟨fun hc => absurd hc (by decide), fun _ => ?_⟩))
def names4 : List Str := ["x", "y1", "zeta", "in4put"]
def nmK (r k : Nat) : Str := (⟨#[("abcdefg" : Str).cps.toList.getD r 0]⟩ : Str) ++ ((toString ((k : Nat) : Int) : String) : Str)
def szB : Nat → Nat
  | 0 => 1
  | k + 1 => 1 + 3 * szB k
theorem szB_pos : ∀ k, 1 ≤ szB k
  | 0 => Nat.le_refl _
  | k + 1 => by simp only [szB]; omega
theorem wf_szB {w : Nat} {nms : List Str} : ∀ (k : Nat) (d : D), wfD w nms d = true → depthD d ≤ k → sizeD d ≤ szB k
  | k, .int i, _, _ => by simp only [sizeD]; exact szB_pos k
  | k, .str s, _, _ => by simp only [sizeD]; exact szB_pos k
  | 0, .tup ds, h, hd => by rw [depthD_tup] at hd; omega
  | k + 1, .tup ds, h, hd => by
    obtain ⟨o, t, rfl, hl, ht, _⟩ := op_inv h
    rw [depthD_tup] at hd
    have hd : depthDs t + 1 ≤ k + 1 := hd
    rw [sizeD_tup]
    have h1 : sizeDs t ≤ t.length * szB k := sizes_le fun d hd2 => wf_szB k d (ht d hd2) (by have := depthD_mem hd2; omega)
    have h2 : t.length * szB k ≤ 3 * szB k := Nat.mul_le_mul_right _ (by rw [hl]; exact (ar3 o).1)
    show 1 + sizeDs t ≤ szB (k + 1)
    simp only [szB]; omega
  | k, .non, h, _ => by simp [wfD] at h
  | k, .bl _, h, _ => by simp [wfD] at h
  | k, .ref _, h, _ => by simp [wfD] at h
  | k, .ty _, h, _ => by simp [wfD] at h
  | k, .kd _, h, _ => by simp [wfD] at h
  | k, .fl _, h, _ => by simp [wfD] at h
/-- the lets so far -/
structure LetsOk (w : Nat) (ins : List Str) (l : List (Str × D)) : Prop where
  ok : ∀ (i : Nat) (p : Str × D), l[i]? = some p → (∃ r, r < 7 ∧ p.1 = nmK r i) ∧ okF w (ins ++ (l.take i).map Prod.fst) p.2
theorem LetsOk.push {w : Nat} {ins : List Str} {l : List (Str × D)} {r : Nat} {d : D} (h : LetsOk w ins l) (hr : r < 7) (hd : okF w (ins ++ l.map Prod.fst) d) : LetsOk w ins (l ++ [(nmK r l.length, d)]) := ⟨fun i p hp => by
  by_cases hi : i < l.length
  · rw [List.getElem?_append_left hi] at hp
    rw [List.take_append_of_le_length (by omega)]
    exact h.ok i p hp
  · have hlt := lt_at hp
    rw [List.length_append] at hlt
    have hi : i = l.length := by have : [(nmK r l.length, d)].length = 1 := rfl; omega
    subst hi
    have hp : p = (nmK r l.length, d) := by simpa using hp.symm
    subst hp
    refine ⟨⟨r, hr, rfl⟩, ?_⟩
    rw [List.take_append_of_le_length (Nat.le_refl _), List.take_length]
    exact hd⟩
end Rd

set_option Elab.async false
set_option linter.all false
set_option autoImplicit false
set_option maxRecDepth 100000
set_option maxHeartbeats 8000000
/-! readings: the law of k87, a drawn text -/
namespace Rd
open PySem PySem.Spec PyProof.Rows L2 DH Bd
local macro_rules | `(tactic| walk_at "if") => `(tactic| first | (refine ⟨fun _ => ?_, fun hc => absurd hc (by decide)⟩) | (refine ⟨fun hc => absurd hc (by decide), fun _ => ?_⟩))
end Rd

set_option Elab.async false
set_option linter.all false
set_option autoImplicit false
set_option maxRecDepth 100000
set_option maxHeartbeats 8000000
/-! readings: the law of k87 -/
namespace Rd
open PySem PySem.Spec PyProof.Rows L2 DH Bd
local macro_rules | `(tactic| walk_at "if") => `(tactic| first | (refine ⟨fun _ => ?_, fun hc => absurd hc (by decide)⟩) | (refine ⟨fun hc => absurd hc (by decide), fun _ => ?_⟩))
theorem wf_ok {w : Nat} {nms : List Str} (hs : ∀ s ∈ nms, PyData.strOk s = true) : ∀ (k : Nat) (d : D), wfD w nms d = true → depthD d ≤ k → OkD (k + 1) d
  | k, .int i, _, _ => ok_int i _
  | k, .str s, h, _ => by
    simp only [wfD] at h
    exact ok_str (hs s (of_decide_eq_true h)) _
  | 0, .tup ds, h, hd => by rw [depthD_tup] at hd; omega
  | k + 1, .tup ds, h, hd => by
    obtain ⟨o, t, rfl, hl, ht, _⟩ := op_inv h
    rw [depthD_tup] at hd
    have hd : depthDs t + 1 ≤ k + 1 := hd
    refine ok_tup fun d hd2 => ?_
    rcases List.mem_cons.mp hd2 with rfl | hd2
    · exact ok_str (by cases o <;> decide +kernel) _
    · exact wf_ok hs k d (ht d hd2) (by have := depthD_mem hd2; omega)
  | k, .non, h, _ => by simp [wfD] at h
  | k, .bl _, h, _ => by simp [wfD] at h
  | k, .ref _, h, _ => by simp [wfD] at h
  | k, .ty _, h, _ => by simp [wfD] at h
  | k, .kd _, h, _ => by simp [wfD] at h
  | k, .fl _, h, _ => by simp [wfD] at h
theorem But.da {M M' : Mm} {x a : Addr} {t : TX} (h : DaM M a t) (b : But x M M') (hx : M x = none) : DaM M' a t :=
  let ⟨a1, a2, a3, a4, h0, h1, h2, h3, h4⟩ := h.ex
  have ne : ∀ y o, M y = some o → y ≠ x := fun y o q z => by subst z; rw [hx] at q; cases q
  ⟨a1, a2, a3, a4, b _ _ (ne _ _ h0) h0, b _ _ (ne _ _ h1) h1, b _ _ (ne _ _ h2) h2, b _ _ (ne _ _ h3) h3, b _ _ (ne _ _ h4) h4⟩
end Rd

set_option Elab.async false
set_option linter.all false
set_option autoImplicit false
set_option maxRecDepth 100000
set_option maxHeartbeats 4000000
/-! readings for k88: books, steps; plain meaning -/
namespace Rk
open PySem PySem.Spec PyProof.Rows L2 DH Bd Rd
/-! ### names of a formula -/
def abk : List Str := ["a", "b", "k"]
def hasA (f : D) : Bool := decide (("a" : Str) ∈ namesD f)
def hasB (f : D) : Bool := decide (("b" : Str) ∈ namesD f)
def hasK (f : D) : Bool := decide (("k" : Str) ∈ namesD f)
def srcN (f : D) : Nat := (if hasA f then 1 else 0) + (if hasB f then 1 else 0)
mutual
/-- with repeats -/
def lnamesD : D → List Str
  | .str s => [s]
  | .tup (_ :: t) => lnamesDs t
  | _ => []
def lnamesDs : List D → List Str
  | [] => []
  | d :: t => lnamesD d ++ lnamesDs t
end
theorem mem_addN (s : Str) : ∀ (m f : List Str), s ∈ addN f m ↔ s ∈ f ∨ s ∈ m := by
  intro m
  induction m with
  | nil => intro f; simp [addN]
  | cons x m ih =>
    intro f
    simp only [addN, List.foldl_cons] at ih ⊢
    by_cases h : x ∈ f
    · have := ih f
      simp only [h, if_true, List.mem_cons] at this ⊢
      rw [this]
      constructor
      · rintro (q | q) <;> simp [q]
      · rintro (q | q | q)
        · exact .inl q
        · exact .inl (q ▸ h)
        · exact .inr q
    · have := ih (f ++ [x])
      simp only [h, if_false, List.mem_cons] at this ⊢
      rw [this, List.mem_append, List.mem_singleton, or_assoc]
mutual
theorem mem_lnames (s : Str) : ∀ d : D, s ∈ namesD d ↔ s ∈ lnamesD d
  | .str z => by simp [namesD, lnamesD]
  | .tup [] => by simp [namesD, lnamesD]
  | .tup (x :: t) => by
    simp only [namesD, lnamesD]
    rw [mem_lnamess s t []]
    simp
  | .int _ => by simp [namesD, lnamesD]
  | .non => by simp [namesD, lnamesD]
  | .bl _ => by simp [namesD, lnamesD]
  | .ref _ => by simp [namesD, lnamesD]
  | .ty _ => by simp [namesD, lnamesD]
  | .kd _ => by simp [namesD, lnamesD]
  | .fl _ => by simp [namesD, lnamesD]
theorem mem_lnamess (s : Str) : ∀ (t : List D) (f : List Str), s ∈ namesDs f t ↔ s ∈ f ∨ s ∈ lnamesDs t
  | [], f => by simp [namesDs, lnamesDs]
  | d :: t, f => by
    simp only [namesDs, lnamesDs]
    rw [mem_lnamess s t, mem_addN, mem_lnames s d, List.mem_append, or_assoc]
end
mutual
/-- a well-formed formula is one over its own names -/
theorem wf_own {w : Nat} {nms ms : List Str} : ∀ d : D, wfD w nms d = true → (∀ s ∈ lnamesD d, s ∈ ms) → wfD w ms d = true
  | .int i, h, _ => by simpa only [wfD] using h
  | .str s, h, q => by simp only [wfD]; exact decide_eq_true (q s (by simp [lnamesD]))
  | .tup ds, h, q => by
    obtain ⟨o, t, rfl, hl, ht, _⟩ := op_inv h
    have h2 : wfDs w nms t = true := by
      simp only [wfD, opOf_of] at h
      exact (Bool.and_eq_true_iff.mp h).2
    simp only [wfD, opOf_of]
    rw [wf_owns t h2 (fun s hs => q s (by simpa only [lnamesD] using hs)), hl]
    simp
  | .non, h, _ => by simp [wfD] at h
  | .bl _, h, _ => by simp [wfD] at h
  | .ref _, h, _ => by simp [wfD] at h
  | .ty _, h, _ => by simp [wfD] at h
  | .kd _, h, _ => by simp [wfD] at h
  | .fl _, h, _ => by simp [wfD] at h
theorem wf_owns {w : Nat} {nms ms : List Str} : ∀ t : List D, wfDs w nms t = true → (∀ s ∈ lnamesDs t, s ∈ ms) → wfDs w ms t = true
  | [], _, _ => by simp [wfDs]
  | d :: t, h, q => by
    simp only [wfDs, Bool.and_eq_true] at h ⊢
    exact ⟨wf_own d h.1 fun s hs => q s (by simp [lnamesDs, hs]), wf_owns t h.2 fun s hs => q s (by simp [lnamesDs, hs])⟩
end
/-! ### books -/
structure BK where
  w : Nat
  r : Nat
  words : List Nat
  deeds : List (Str × Nat × D)
def deedD (d : Str × Nat × D) : D := .tup [.str d.1, .int (d.2.1 : Nat), d.2.2]
def BK.fs (b : BK) : List (Str × D) := [("width", .int b.w), ("registers", .int b.r), ("words", .tup (wds b.words)), ("deeds", .tup (b.deeds.map deedD))]
structure BK.Ok (b : BK) : Prop where
  w1 : 1 ≤ b.w
  w4 : b.w ≤ 4
  r1 : 1 ≤ b.r
  r4 : b.r ≤ 4
  bits : b.w * b.r ≤ 8
  wl : b.words.length ≤ 16
  wlt : ∀ x ∈ b.words, x < 2 ^ b.w
  asc : b.words.Pairwise (· < ·)
  d1 : 1 ≤ b.deeds.length
  d6 : b.deeds.length ≤ 6
  nd : (b.deeds.map (·.1)).Nodup
  nm : ∀ d ∈ b.deeds, isNameS d.1 = true ∧ d.1.length ≤ 1000 ∧ PyData.strOk d.1 = true
  pr : ∀ d ∈ b.deeds, 1 ≤ d.2.1 ∧ d.2.1 ≤ 9
  fm : ∀ d ∈ b.deeds, wfD b.w abk d.2.2 = true ∧ depthD d.2.2 ≤ 6 ∧ sizeD d.2.2 ≤ 9
  ba : ∀ d ∈ b.deeds, hasB d.2.2 = true → hasA d.2.2 = true
def ClB (cl : CF) (C : Addr) : Prop := ∀ f ∈ (["width", "registers", "words", "deeds"] : List Str), cl C f
structure BkM (cl : CF) (C : Addr) (M : Mm) (a : Addr) (b : BK) : Prop where
  at_ : M a = some (.ins C b.fs)
  cl : ClB cl C
theorem BkM.ext {cl : CF} {C a : Addr} {M M' : Mm} {b : BK} (h : BkM cl C M a b) (e : Ext M M') : BkM cl C M' a b := ⟨e _ _ h.at_, h.cl⟩
/-! ### steps -/
structure ST where
  nm : Str
  src : List Int
  wd : Option Int
  tg : Int
def wdD : Option Int → D
  | none => .non
  | some i => .int i
def stD (s : ST) : D := .tup [.str s.nm, .tup (s.src.map .int), wdD s.wd, .int s.tg]
def BK.find (b : BK) (n : Str) : Option (Str × Nat × D) := b.deeds.find? fun d => decide (d.1 = n)
def wdOk (b : BK) : Option Int → Bool
  | none => true
  | some i => decide (i ∈ b.words.map Int.ofNat)
def srcOk (b : BK) (x : Int) : Bool := decide (0 ≤ x) && decide (x < b.r)
def stepOk (b : BK) (s : ST) (f : D) : Bool := (decide (s.src.length = srcN f) && (decide (0 ≤ s.tg) && decide (s.tg < b.r))) && ((hasK f == s.wd.isSome) && wdOk b s.wd) && s.src.all (srcOk b)
def isStep (b : BK) (s : ST) : Bool := match b.find s.nm with
  | none => false
  | some d => stepOk b s d.2.2
def srcRows (r : Nat) : Nat → List (List Nat)
  | 0 => [[]]
  | n + 1 => (srcRows r n).flatMap fun row => (List.range r).map fun x => row ++ [x]
def wordsOf (b : BK) (f : D) : List (Option Int) := if hasK f then b.words.map (fun x : Nat => some (x : Int)) else [none]
def deedSteps (b : BK) (d : Str × Nat × D) : List ST := (srcRows b.r (srcN d.2.2)).flatMap fun row => (wordsOf b d.2.2).flatMap fun wd => (List.range b.r).map fun t : Nat => ⟨d.1, row.map Int.ofNat, wd, (t : Int)⟩
def BK.steps (b : BK) : List ST := b.deeds.flatMap (deedSteps b)
def stepCount (b : BK) (f : D) : Nat := b.r * b.r ^ srcN f * (if hasK f then b.words.length else 1)
def counts (b : BK) : Nat → List Nat
  | 0 => [1]
  | n + 1 => let c := counts b n; c ++ [((b.deeds.map fun d => if d.2.1 ≤ n + 1 then stepCount b d.2.2 * c.getD (n + 1 - d.2.1) 0 else 0)).sum]
abbrev EnX (Q : DQ) (E : DX) : DEnds := { nx := fun _ M' => Q .non M', rt := Q, xc := fun cls d _ M' => E cls d M' }
/-! ### small lemmas -/
theorem srcN_le (f : D) : srcN f ≤ 2 := by unfold srcN; split <;> split <;> omega
theorem BK.Ok.tree {b : BK} (ok : b.Ok) {d : Str × Nat × D} (h : d ∈ b.deeds) : tree d.2.2 = true := wf_tree _ (ok.fm d h).1
end Rk

set_option Elab.async false
set_option linter.all false
set_option autoImplicit false
set_option maxRecDepth 100000
set_option maxHeartbeats 4000000
/-! readings for k88: sources, words, rows of sources -/
namespace Rk
open PySem PySem.Spec PyProof.Rows L2 DH Bd Rd
local macro_rules | `(tactic| walk_at "if") => `(tactic| first | (refine ⟨fun _ => ?_, fun hc => absurd hc (by decide)⟩) | (refine ⟨fun hc => absurd hc (by decide), fun _ => ?_⟩))
/-- a formula that may be asked for its names -/
structure FmOk (f : D) : Prop where
  tr : tree f = true
  de : depthD f ≤ 6
  sz : sizeD f ≤ 100000
theorem BK.Ok.fmOk {b : BK} (ok : b.Ok) {d : Str × Nat × D} (h : d ∈ b.deeds) : FmOk d.2.2 := ⟨ok.tree h, (ok.fm d h).2.1, by have := (ok.fm d h).2.2; omega⟩
theorem b2n (a b : Bool) : ((if a then (1 : Int) else 0) + if b then (1 : Int) else 0) = (((if a then 1 else 0) + (if b then 1 else 0) : Nat) : Int) := by cases a <;> cases b <;> rfl
def sp_source_count : DSp := fun ds M Q _ => ∃ f, ds = [f] ∧ FmOk f ∧ RetV M Q (.int (srcN f : Nat))
theorem r_source_count : ∀ ds M Q E, sp_source_count ds M Q E → b_source_count (sp_names 8) (En Q) (startD 2 ds) M := by
  rintro ds M Q E ⟨f, rfl, ok, h⟩
  refine ⟨f, rfl, ok.tr, by have := ok.de; omega, ok.sz, fun p M1 hp x1 hm => ?_⟩
  refine .inl ⟨_, hm, rfl, flat_strs _, ?_⟩
  rw [inD_strs]
  refine .inl ⟨_, hm, rfl, flat_strs _, ?_⟩
  rw [inD_strs]
  exact qi (h M1 x1) (b2n (hasA f) (hasB f))
def sp_takes_word : DSp := fun ds M Q _ => ∃ f, ds = [f] ∧ FmOk f ∧ RetV M Q (.bl (hasK f))
theorem r_takes_word : ∀ ds M Q E, sp_takes_word ds M Q E → b_takes_word (sp_names 8) (En Q) (startD 1 ds) M := by
  rintro ds M Q E ⟨f, rfl, ok, h⟩
  refine ⟨f, rfl, ok.tr, by have := ok.de; omega, ok.sz, fun p M1 hp x1 hm => ?_⟩
  refine .inl ⟨_, hm, rfl, flat_strs _, ?_⟩
  rw [inD_strs]
  exact h M1 x1
/-! ### the law's own names -/
def sp_lnames2 (n : Nat) : DSp := fun ds M Q _ => ∃ d, ds = [d] ∧ tree d = true ∧ depthD d < n ∧ sizeD d ≤ 100000 ∧ RetL M Q ((lnamesD d).map D.str)
mutual
theorem lnames_len : ∀ d : D, (lnamesD d).length ≤ sizeD d
  | .str s => by simp [lnamesD, sizeD]
  | .tup [] => by simp [lnamesD, sizeD]
  | .tup (x :: t) => by
    have := lnames_lens t
    simp only [lnamesD, sizeD]
    omega
  | .int _ => by simp [lnamesD, sizeD]
  | .non => by simp [lnamesD, sizeD]
  | .bl _ => by simp [lnamesD, sizeD]
  | .ref _ => by simp [lnamesD, sizeD]
  | .ty _ => by simp [lnamesD, sizeD]
  | .kd _ => by simp [lnamesD, sizeD]
  | .fl _ => by simp [lnamesD, sizeD]
theorem lnames_lens : ∀ t : List D, (lnamesDs t).length ≤ sizeDs t
  | [] => by simp [lnamesDs, sizeDs]
  | d :: t => by
    have h1 := lnames_len d
    have h2 := lnames_lens t
    simp only [lnamesDs, sizeDs, List.length_append]; omega
end
theorem lnamesDs_snoc (d : D) : ∀ t : List D, lnamesDs (t ++ [d]) = lnamesDs t ++ lnamesD d
  | [] => by simp [lnamesDs]
  | x :: t => by
    simp only [List.cons_append, lnamesDs]
    rw [lnamesDs_snoc d t, List.append_assoc]
theorem r__law_names_v2 (n : Nat) : ∀ ds M Q E, sp_lnames2 (n + 1) ds M Q E → b__law_names_v2 (sp_lnames2 n) (En Q) (startD 3 ds) M := by
  rintro ds M Q E ⟨d, rfl, ht, hn, hz, h⟩
  cases d with
  | int i =>
    walk_at "if"
    refine ⟨Nat.zero_le _, fun p hp => ?_⟩
    walk_at "if"
    exact h p _ hp (Ext.new hp) updM_same
  | str s =>
    walk_at "if"
    exact ⟨(by show 1 ≤ sizeLine; decide), fun p hp => h p _ hp (Ext.new hp) updM_same⟩
  | tup ds =>
    walk_at "if"
    refine ⟨Nat.zero_le _, fun p hp => ?_⟩
    walk_at "if"
    have e0 : lnamesD (.tup ds) = lnamesDs (ds.drop 1) := by cases ds <;> simp [lnamesD, lnamesDs]
    have hz2 : ∀ i, (lnamesDs ((ds.drop 1).take i)).length ≤ 100000 := fun i => by
      have h1 := lnames_lens ((ds.drop 1).take i)
      rw [sizeD_tup] at hz
      have := sizeDs_take (ds.drop 1) i
      omega
    refine ⟨fun i E M' => Ext M M' ∧ ∃ q x, M q = none ∧ M' q = some (.lst ((lnamesDs ((ds.drop 1).take i)).map D.str)) ∧ E = [some (.tup ds), some (.ref q), x], ⟨Ext.new hp, p, none, hp, updM_same, rfl⟩, fun _ _ _ _ => trivial, ?_, ?_⟩
    · rintro i E M' d hd ⟨hx, q, x, hq, hl, rfl⟩
      rw [cut1] at hd
      have hm := mem_at hd
      have h1 := depthD_mem hm
      rw [depthD_tup] at hn
      have hsd : sizeD d ≤ 100000 := by
        rw [sizeD_tup] at hz
        have := sizeD_mem hm
        omega
      refine ⟨d, rfl, tree_tup ht d (drop_mem hm), by omega, hsd, fun q2 M1 hq2 e1 hl1 => ?_⟩
      have l3 := lnames_len d
      refine ⟨_, _, e1 _ _ hl, hl1, ?_, fun q3 hq3 => ?_⟩
      · rw [List.length_map, List.length_map]
        have := hz2 i
        exact Nat.le_of_lt (tolist (by omega))
      · refine ⟨(hx.trans e1).trans (Ext.new hq3), q3, some d, (hx.trans e1).back hq3, ?_, rfl⟩
        rw [updM_same, take_snoc hd, lnamesDs_snoc, List.map_append]
    · rintro E M' ⟨hx, q, x, hq, hl, rfl⟩
      refine h q M' hq hx ?_
      rw [cut1, List.take_length] at hl
      rw [e0]; exact hl
  | _ => simp [tree] at ht
def sp_lsources : DSp := fun ds M Q _ => ∃ f, ds = [f] ∧ FmOk f ∧ RetV M Q (.int (srcN f : Nat))
theorem r__law_sources : ∀ ds M Q E, sp_lsources ds M Q E → b__law_sources (sp_lnames2 8) (En Q) (startD 2 ds) M := by
  rintro ds M Q E ⟨f, rfl, ok, h⟩
  refine ⟨f, rfl, ok.tr, by have := ok.de; omega, ok.sz, fun p M1 hp x1 hm => ?_⟩
  refine .inl ⟨_, hm, rfl, flat_strs _, ?_⟩
  rw [inD_strs]
  refine .inl ⟨_, hm, rfl, flat_strs _, ?_⟩
  rw [inD_strs]
  refine qi (h M1 x1) ?_
  have ea : decide (("a" : Str) ∈ lnamesD f) = hasA f := by unfold hasA; rw [decide_eq_decide]; exact (mem_lnames _ _).symm
  have eb : decide (("b" : Str) ∈ lnamesD f) = hasB f := by unfold hasB; rw [decide_eq_decide]; exact (mem_lnames _ _).symm
  have := b2n (hasA f) (hasB f)
  rw [← ea, ← eb] at this
  refine this.trans ?_
  unfold srcN
  rw [← ea, ← eb]
/-! ### rows of sources -/
def rowsD (l : List (List Nat)) : List D := l.map fun row => .tup (wds row)
theorem rowsD_app (a b : List (List Nat)) : rowsD (a ++ b) = rowsD a ++ rowsD b := by unfold rowsD; rw [List.map_append]
theorem srcRows_len (r : Nat) (h : r ≤ 4) : ∀ n, n ≤ 3 → (srcRows r n).length ≤ 100 := by
  intro n hn
  have : ∀ r : Fin 5, ∀ n : Fin 4, (srcRows r.1 n.1).length ≤ 100 := by decide
  exact this ⟨r, by omega⟩ ⟨n, by omega⟩
theorem srcRows_row (r : Nat) : ∀ (n : Nat) (row : List Nat), row ∈ srcRows r n → row.length = n
  | 0, row, h => by simp [srcRows] at h; rw [h]; rfl
  | n + 1, row, h => by
    simp only [srcRows, List.mem_flatMap, List.mem_map] at h
    obtain ⟨a, ha, x, _, rfl⟩ := h
    rw [List.length_append, srcRows_row r n a ha]; rfl
theorem fm_len (r : Nat) : ∀ l : List (List Nat), (l.flatMap fun row => (List.range r).map fun x => row ++ [x]).length = l.length * r
  | [] => by simp
  | a :: l => by
    rw [List.flatMap_cons, List.length_append, fm_len r l, List.length_map, List.length_range, List.length_cons, Nat.succ_mul, Nat.add_comm]
def sp_source_rows : DSp := fun ds M Q _ => ∃ r n : Nat, ds = [.int r, .int n] ∧ r ≤ 4 ∧ n ≤ 3 ∧ RetL M Q (rowsD (srcRows r n))
theorem r_source_rows : ∀ ds M Q E, sp_source_rows ds M Q E → b_source_rows (En Q) (startD 6 ds) M := by
  rintro ds M Q E ⟨r, n, rfl, hr, hn, h⟩
  refine ⟨by show 0 ≤ sizeLine; decide, by show 1 ≤ sizeLine; decide, fun p hp => ?_⟩
  refine ⟨by omega, by omega, ?_⟩
  refine ⟨fun i E M' => Ext M M' ∧ ∃ q x, M q = none ∧ M' q = some (.lst (rowsD (srcRows r i))) ∧ E = [some (.int r), some (.int n), some (.ref q), x, none, none], ⟨Ext.new hp, p, none, hp, updM_same, rfl⟩, fun _ _ _ _ => trivial, ?_, ?_⟩
  · rintro i E M' d hd ⟨hx, q, x, hq, hl, rfl⟩
    obtain ⟨hi, rfl⟩ := rng_at hd
    have hi : i < n := by have : i < (n : Int).toNat := hi; omega
    have hlen := srcRows_len r hr (i + 1) (by omega)
    refine ⟨_, hl, fun p2 hp2 => ?_⟩
    have hqp : q ≠ p2 := Ext.ne hl hp2
    refine ⟨fun j acc M2 => Ext M' M2 ∧ M2 p2 = some (.lst acc) ∧ acc = rowsD (((srcRows r i).take j).flatMap fun row => (List.range r).map fun x => row ++ [x]), ⟨Ext.new hp2, updM_same, rfl⟩, fun j acc M2 ⟨e, _⟩ => e _ _ hl, ?_, ?_⟩
    · rintro j acc M2 d hd ⟨hx2, hp3, rfl⟩
      unfold rowsD at hd
      rw [List.getElem?_map] at hd
      obtain ⟨row, hrow, rfl⟩ := Option.map_eq_some_iff.mp hd
      have et : (((srcRows r i).take (j + 1)).flatMap fun row => (List.range r).map fun x => row ++ [x]) = (((srcRows r i).take j).flatMap fun row => (List.range r).map fun x => row ++ [x]) ++ (List.range r).map fun x => row ++ [x] := by
        rw [take_snoc hrow, List.flatMap_append]; simp
      refine ⟨fun hc => absurd hc (by decide), fun _ => ⟨by omega, by omega, ?_⟩⟩
      refine ⟨fun k acc M3 => Ext M' M3 ∧ M3 p2 = some (.lst acc) ∧ acc = rowsD ((((srcRows r i).take j).flatMap fun row => (List.range r).map fun x => row ++ [x]) ++ ((List.range r).take k).map fun x => row ++ [x]), ⟨hx2, hp3, by simp⟩, fun _ _ _ _ => trivial, ?_, ?_⟩
      · rintro k acc M3 d hd ⟨hx3, hp4, rfl⟩
        obtain ⟨hk, rfl⟩ := rng_at hd
        have hk : k < r := by have : k < (r : Int).toNat := hk; omega
        have hl1 : (rowsD ((((srcRows r i).take j).flatMap fun row => (List.range r).map fun x => row ++ [x]) ++ ((List.range r).take k).map fun x => row ++ [x])).length ≤ 404 := by
          unfold rowsD
          rw [List.length_map, List.length_append, fm_len, List.length_map, List.length_take, List.length_take, List.length_range]
          have a1 := srcRows_len r hr i (by omega)
          have : min j (srcRows r i).length * r ≤ 100 * 4 := Nat.mul_le_mul (by omega) hr
          omega
        have hw := srcRows_row r i row (mem_at hrow)
        refine ⟨fun _ => ⟨by show 1 ≤ sizeLine; decide, ?_, hp4, tolist (by omega), hx3.mut hp2, updM_same, ?_⟩, fun hc => absurd hc (by decide)⟩
        · show (wds row).length + 1 ≤ sizeLine
          rw [List.length_map, hw]
          exact Nat.le_of_lt (tolist (by omega))
        · have hk2 : (List.range r)[k]? = some k := by simp [hk]
          rw [take_snoc hk2, List.map_append, ← List.append_assoc, rowsD_app]
          simp [rowsD]
      · rintro acc M3 ⟨hx3, hp4, rfl⟩
        refine ⟨hx3, hp4, ?_⟩
        rw [rng_len, et]
        show rowsD (_ ++ ((List.range r).take (r : Int).toNat).map _) = _
        rw [show (r : Int).toNat = r by omega, show (List.range r).take r = List.range r from by rw [List.take_of_length_le (by simp)]]
    · rintro acc M2 ⟨hx2, hp3, rfl⟩
      refine ⟨hx.trans hx2, p2, _, hx.back hp2, ?_, rfl⟩
      rw [hp3]
      have : (rowsD (srcRows r i)).length = (srcRows r i).length := by unfold rowsD; rw [List.length_map]
      rw [this, List.take_length]; rfl
  · rintro E M' ⟨hx, q, x, hq, hl, rfl⟩
    refine h q M' hq hx ?_
    rw [rng_len, show (n : Int).toNat = n by omega] at hl
    exact hl
end Rk

set_option Elab.async false
set_option linter.all false
set_option autoImplicit false
set_option maxRecDepth 100000
set_option maxHeartbeats 4000000
/-! readings for k88: a valid book is made -/
namespace Rk
open PySem PySem.Spec PyProof.Rows L2 DH Bd Rd
local macro_rules | `(tactic| walk_at "if") => `(tactic| first | (refine ⟨fun _ => ?_, fun hc => absurd hc (by decide)⟩) | (refine ⟨fun hc => absurd hc (by decide), fun _ => ?_⟩))
theorem nmul (a b : Nat) : ((a : Int) * (b : Int)) = ((a * b : Nat) : Int) := by push_cast; rfl
def sp_step_count (cl : CF) (CB : Addr) : DSp := fun ds M Q _ => ∃ (a : Addr) (b : BK) (f : D), ds = [.ref a, f] ∧ BkM cl CB M a b ∧ b.Ok ∧ FmOk f ∧ RetV M Q (.int (stepCount b f : Nat))
theorem r_step_count (cl : CF) (CB : Addr) : ∀ ds M Q E, sp_step_count cl CB ds M Q E → b_step_count cl sp_source_count sp_takes_word (En Q) (startD 4 ds) M := by
  rintro ds M Q E ⟨a, b, f, rfl, bm, ok, fo, h⟩
  have r4 := ok.r4
  have hs := srcN_le f
  have wl := ok.wl
  refine ⟨_, _, _, _, rfl, bm.at_, bm.cl _ (by simp), rfl, ?_⟩
  refine ⟨f, rfl, fo, fun M1 x1 => ?_⟩
  refine ⟨by omega, by omega, ?_⟩
  have pw : ∀ i, i ≤ 2 → b.r * b.r ^ i ≤ 64 := fun i hi => by
    have : ∀ r : Fin 5, ∀ i : Fin 3, r.1 * r.1 ^ i.1 ≤ 64 := by decide
    exact this ⟨b.r, by omega⟩ ⟨i, by omega⟩
  refine ⟨fun i E M' => Ext M M' ∧ ∃ x, E = [some (.ref a), some f, some (.int ((b.r * b.r ^ i : Nat) : Int)), x], ⟨x1, none, by rw [Nat.pow_zero, Nat.mul_one]; rfl⟩, fun _ _ _ _ => trivial, ?_, ?_⟩
  · rintro i E M' d hd ⟨hx, x, rfl⟩
    obtain ⟨hi, rfl⟩ := rng_at hd
    have hi : i < srcN f := by have : i < (srcN f : Int).toNat := hi; omega
    have hp := pw i (by omega)
    refine ⟨_, _, _, _, rfl, (bm.ext hx).at_, bm.cl _ (by simp), rfl, ?_⟩
    refine ⟨.inl ⟨by omega, by omega⟩, hx, some (.int (0 + (i : Int))), ?_⟩
    show [some (D.ref a), some f, some (D.int _), some (D.int _)] = _
    rw [nmul, Nat.pow_succ, ← Nat.mul_assoc]
  rintro E M' ⟨hx, x, rfl⟩
  rw [rng_len, show (srcN f : Int).toNat = srcN f by omega]
  have hp := pw (srcN f) hs
  refine ⟨f, rfl, fo, fun M2 x2 => ?_⟩
  have hx2 := hx.trans x2
  refine ⟨fun hk => ?_, fun hk => ?_⟩
  · refine ⟨_, _, _, _, rfl, (bm.ext hx2).at_, bm.cl _ (by simp), rfl, ?_⟩
    refine ⟨.inl ⟨by omega, by omega⟩, ?_⟩
    refine qi (h M2 hx2) ?_
    unfold stepCount
    rw [hk, if_pos rfl]
    show ((b.r * b.r ^ srcN f : Nat) : Int) * (((wds b.words).length : Nat) : Int) = _
    rw [List.length_map, nmul]
  · refine qi (h M2 hx2) ?_
    unfold stepCount
    rw [hk, if_neg (by decide), Nat.mul_one]
/-! ### nothing breaks a rule -/
theorem wds_at {l : List Nat} {i x : Nat} (h : l[i]? = some x) : (wds l)[i]? = some (.int x) := by rw [List.getElem?_map, h]; rfl
def sp_bad_words (cl : CF) (CB : Addr) : DSp := fun ds M Q _ => ∃ (a : Addr) (b : BK), ds = [.ref a] ∧ BkM cl CB M a b ∧ b.Ok ∧ RetV M Q (.bl false)
theorem r_bad_words (cl : CF) (CB : Addr) : ∀ ds M Q E, sp_bad_words cl CB ds M Q E → b_bad_words cl sp_word_limit (En Q) (startD 2 ds) M := by
  rintro ds M Q E ⟨a, b, rfl, bm, ok, h⟩
  have wl := ok.wl
  have w4 := ok.w4
  have el : (wds b.words).length = b.words.length := List.length_map ..
  refine ⟨_, _, _, _, rfl, bm.at_, bm.cl _ (by simp), rfl, ?_⟩
  refine ⟨by rw [el]; omega, by rw [el]; omega, ?_⟩
  refine ⟨fun i E M' => M' = M ∧ ∃ x, E = [some (.ref a), x], ⟨rfl, none, rfl⟩, fun _ _ _ _ => trivial, ?_, ?_⟩
  · rintro i E M' d hd ⟨rfl, x, rfl⟩
    obtain ⟨hi, rfl⟩ := rng_at hd
    have hi : i < b.words.length := by rw [el] at hi; have : i < (b.words.length : Int).toNat := hi; omega
    rw [Int.zero_add]
    have hat := getE hi
    have hlt := ok.wlt _ (List.getElem_mem hi)
    generalize hv : b.words[i] = v at hat hlt
    refine ⟨_, _, _, _, rfl, bm.at_, bm.cl _ (by simp), rfl, ?_⟩
    refine ⟨.int v, atI_nat (wds_at hat), ?_⟩
    refine ⟨fun _ => ?_, fun hc => ?_⟩
    rotate_left
    · have hc : decide ((0 : Int) ≤ (v : Int)) = false := hc
      exact absurd (of_decide_eq_false hc) (by omega)
    refine ⟨_, _, _, _, rfl, bm.at_, bm.cl _ (by simp), rfl, ?_⟩
    refine ⟨b.w, rfl, by omega, ?_⟩
    refine ⟨fun hc => ?_, fun _ => ?_⟩
    · have hc : (!decide ((v : Int) < ((2 ^ b.w : Nat) : Int))) = true := hc
      exact absurd (Int.ofNat_lt.mpr hlt) (of_decide_eq_false ((Bool.not_eq_true' _).mp hc))
    refine ⟨fun hb => ?_, fun hb => ?_⟩
    rotate_left
    · walk_at "if"
      exact ⟨rfl, _, rfl⟩
    have hb : 0 < i := by have := of_decide_eq_true hb; omega
    obtain ⟨j, rfl⟩ : ∃ j, i = j + 1 := ⟨i - 1, by omega⟩
    have hat2 := getE (show j < b.words.length by omega)
    refine ⟨_, _, _, _, rfl, bm.at_, bm.cl _ (by simp), rfl, ?_⟩
    refine ⟨.int v, atI_nat (wds_at hat), ?_⟩
    refine ⟨_, _, _, _, rfl, bm.at_, bm.cl _ (by simp), rfl, ?_⟩
    refine ⟨.int (b.words[j]'(by omega) : Nat), ?_, ?_⟩
    · rw [show (((j + 1 : Nat) : Int) - 1) = (j : Int) by omega]
      exact atI_nat (wds_at hat2)
    have hlt2 : b.words[j]'(by omega) < v := by
      have := List.pairwise_iff_getElem.mp ok.asc j (j + 1) (by omega) hi (by omega)
      rw [hv] at this; exact this
    refine ⟨fun hc => ?_, fun _ => ⟨rfl, _, rfl⟩⟩
    have hc : decide ((v : Int) ≤ ((b.words[j]'(by omega) : Nat) : Int)) = true := hc
    exact absurd (of_decide_eq_true hc) (by omega)
  · rintro E M' ⟨rfl, x, rfl⟩
    exact h _ (Ext.refl _)
theorem deedD_at {l : List (Str × Nat × D)} {i : Nat} {d : Str × Nat × D} (h : l[i]? = some d) : (l.map deedD)[i]? = some (deedD d) := by rw [List.getElem?_map, h]; rfl
theorem form_of {w : Nat} {f : D} (h : wfD w abk f = true ∧ depthD f ≤ 6 ∧ sizeD f ≤ 9) : formD w abk 9 f = true := by
  unfold formD
  rw [shaped_wf 6 f h.1, decide_eq_true h.2.1, Bool.true_and, decide_eq_true_eq]
  omega
def sp_bad_deed (cl : CF) (CB : Addr) : DSp := fun ds M Q _ => ∃ (a : Addr) (b : BK) (i : Nat), ds = [.ref a, .int i] ∧ BkM cl CB M a b ∧ b.Ok ∧ i < b.deeds.length ∧ RetV M Q (.bl false)
theorem r_bad_deed (cl : CF) (CB : Addr) : ∀ ds M Q E, sp_bad_deed cl CB ds M Q E → b_bad_deed cl sp_is_name sp_is_formula (sp_names 8) (En Q) (startD 7 ds) M := by
  rintro ds M Q E ⟨a, b, i, rfl, bm, ok, hi, h⟩
  have hat := getE hi
  have hm := List.getElem_mem hi
  have d6 := ok.d6
  have w4 := ok.w4
  generalize hv : b.deeds[i] = v at hat hm
  obtain ⟨n1, n2, n3⟩ := ok.nm v hm
  obtain ⟨p1, p2⟩ := ok.pr v hm
  have hba := ok.ba v hm
  have fo := ok.fmOk hm
  have ff := form_of (ok.fm v hm)
  refine ⟨_, _, _, _, rfl, bm.at_, bm.cl _ (by simp), rfl, ?_⟩
  refine ⟨_, atI_nat (deedD_at hat), rfl, ?_⟩
  refine ⟨fun hc => absurd (of_decide_eq_true hc) (by omega), fun _ => ?_⟩
  refine ⟨v.1, rfl, n2, ?_⟩
  rw [n1]
  walk_at "if"
  refine ⟨_, _, _, _, rfl, bm.at_, bm.cl _ (by simp), rfl, ?_⟩
  have ec : cutL D (b.deeds.map deedD) none (some (i : Int)) = (b.deeds.take i).map deedD := by
    rw [cutTo D _ i (by rw [List.length_map]; omega), List.map_take]
  refine fun r hr => ?_
  refine ⟨fun j acc M' => Ext M M' ∧ M' r = some (.lst acc) ∧ acc = (((b.deeds.take i).take j).map (·.1)).map D.str, ⟨Ext.new hr, updM_same, rfl⟩, fun _ _ _ _ => trivial, ?_, ?_⟩
  · rintro j acc M' d hd ⟨hx, hr2, rfl⟩
    rw [ec, List.getElem?_map] at hd
    obtain ⟨p', hp', rfl⟩ := Option.map_eq_some_iff.mp hd
    refine ⟨fun _ => ⟨_, at0, hr2, tolist (by simp; omega), hx.mut hr, updM_same, ?_⟩, fun hc => absurd hc (by decide)⟩
    rw [take_snoc hp', List.map_append, List.map_append]; rfl
  rintro acc M' ⟨hx, hr2, rfl⟩
  rw [ec, show ((b.deeds.take i).map deedD).length = (b.deeds.take i).length by rw [List.length_map], List.take_length] at hr2
  have hnin : ¬ v.1 ∈ (b.deeds.take i).map (·.1) := fun hmem => by
    obtain ⟨j, hj, e⟩ := List.mem_iff_getElem.mp hmem
    rw [List.length_map, List.length_take] at hj
    rw [List.getElem_map, List.getElem_take] at e
    have := List.pairwise_iff_getElem.mp ok.nd j i (by rw [List.length_map]; omega) (by rw [List.length_map]; exact hi) (by omega)
    rw [List.getElem_map, List.getElem_map, e, hv] at this
    exact this rfl
  refine .inl ⟨_, hr2, rfl, flat_strs _, ?_⟩
  rw [inD_strs, decide_eq_false hnin]
  walk_at "if"
  refine ⟨fun _ => ?_, fun hc => ?_⟩
  rotate_left
  · have hc : decide ((1 : Int) ≤ ((v.2.1 : Nat) : Int)) = false := hc
    exact absurd (of_decide_eq_false hc) (by omega)
  refine ⟨fun hc => ?_, fun _ => ?_⟩
  · have hc : (!decide (((v.2.1 : Nat) : Int) ≤ 9)) = true := hc
    simp at hc; omega
  refine ⟨_, _, _, _, rfl, (bm.ext hx).at_, bm.cl _ (by simp), rfl, ?_⟩
  refine ⟨by show 3 ≤ sizeLine; decide, ?_⟩
  refine ⟨v.2.2, .tup (abk.map D.str), b.w, 9, abk, rfl, .inl rfl, fo.tr, by omega, ?_⟩
  rw [ff]
  walk_at "if"
  refine ⟨v.2.2, rfl, fo.tr, by have := fo.de; omega, fo.sz, fun p M1 hp x1 hm1 => ?_⟩
  refine .inl ⟨_, hm1, rfl, flat_strs _, ?_⟩
  rw [inD_strs]
  refine ⟨fun hb => ?_, fun hb => ?_⟩
  · have ha := hba hb
    refine .inl ⟨_, hm1, rfl, flat_strs _, ?_⟩
    rw [inD_strs]
    refine qb (h M1 (hx.trans x1)) ?_
    have ha : decide (("a" : Str) ∈ namesD v.2.2) = true := ha
    show (!decide (("a" : Str) ∈ namesD v.2.2)) = false
    rw [ha]; rfl
  · exact h M1 (hx.trans x1)
def sp_first_bad_line2 (cl : CF) (CB : Addr) : DSp := fun ds M Q _ => ∃ (a : Addr) (b : BK), ds = [.ref a] ∧ BkM cl CB M a b ∧ b.Ok ∧ RetV M Q (.int 0)
theorem r_first_bad_line_v2 (cl : CF) (CB : Addr) : ∀ ds M Q E, sp_first_bad_line2 cl CB ds M Q E → b_first_bad_line_v2 cl (sp_bad_words cl CB) (sp_bad_deed cl CB) (En Q) (startD 2 ds) M := by
  rintro ds M Q E ⟨a, b, rfl, bm, ok, h⟩
  have w1 := ok.w1
  have w4 := ok.w4
  have r1 := ok.r1
  have r4 := ok.r4
  have bits := ok.bits
  have d1 := ok.d1
  have d6 := ok.d6
  have el : (b.deeds.map deedD).length = b.deeds.length := List.length_map ..
  refine ⟨_, _, _, _, rfl, bm.at_, bm.cl _ (by simp), rfl, ?_⟩
  refine ⟨fun _ => ?_, fun hc => ?_⟩
  rotate_left
  · have hc : decide ((1 : Int) ≤ ((b.w : Nat) : Int)) = false := hc
    exact absurd (of_decide_eq_false hc) (by omega)
  refine ⟨fun hc => ?_, fun _ => ?_⟩
  · have hc : (!decide (((b.w : Nat) : Int) ≤ 4)) = true := hc
    simp at hc; omega
  refine ⟨_, _, _, _, rfl, bm.at_, bm.cl _ (by simp), rfl, ?_⟩
  refine ⟨fun _ => ?_, fun hc => ?_⟩
  rotate_left
  · have hc : decide ((1 : Int) ≤ ((b.r : Nat) : Int)) = false := hc
    exact absurd (of_decide_eq_false hc) (by omega)
  refine ⟨fun hc => ?_, fun _ => ?_⟩
  · have hc : (!decide (((b.r : Nat) : Int) ≤ 4)) = true := hc
    simp at hc; omega
  refine ⟨_, _, _, _, rfl, bm.at_, bm.cl _ (by simp), rfl, ?_⟩
  refine ⟨_, _, _, _, rfl, bm.at_, bm.cl _ (by simp), rfl, ?_⟩
  refine ⟨.inl ⟨by omega, by omega⟩, ?_⟩
  refine ⟨fun hc => ?_, fun _ => ?_⟩
  · have hc : decide ((8 : Int) < ((b.w : Nat) : Int) * ((b.r : Nat) : Int)) = true := hc
    have := of_decide_eq_true hc
    rw [nmul] at this; omega
  refine ⟨a, b, rfl, bm, ok, fun M1 x1 => ?_⟩
  walk_at "if"
  have bm1 := bm.ext x1
  refine ⟨_, _, _, _, rfl, bm1.at_, bm1.cl _ (by simp), rfl, ?_⟩
  refine ⟨by rw [el]; omega, by rw [el]; omega, ?_⟩
  refine ⟨fun i E M' => Ext M1 M' ∧ ∃ x, E = [some (.ref a), x], ⟨Ext.refl _, none, rfl⟩, fun _ _ _ _ => trivial, ?_, ?_⟩
  · rintro i E M' d hd ⟨hx, x, rfl⟩
    obtain ⟨hi, rfl⟩ := rng_at hd
    have hi : i < b.deeds.length := by rw [el] at hi; have : i < (b.deeds.length : Int).toNat := hi; omega
    rw [Int.zero_add]
    refine ⟨a, b, i, rfl, bm1.ext hx, ok, hi, fun M2 x2 => ?_⟩
    walk_at "if"
    exact ⟨hx.trans x2, _, rfl⟩
  rintro E M' ⟨hx, x, rfl⟩
  have bm2 := bm1.ext hx
  refine ⟨_, _, _, _, rfl, bm2.at_, bm2.cl _ (by simp), rfl, ?_⟩
  refine ⟨fun hc => ?_, fun _ => ?_⟩
  · have hc : decide ((((b.deeds.map deedD).length : Nat) : Int) = 0) = true := hc
    have := of_decide_eq_true hc
    omega
  exact h _ (x1.trans hx)
end Rk

set_option Elab.async false
set_option linter.all false
set_option autoImplicit false
set_option maxRecDepth 100000
set_option maxHeartbeats 4000000
/-! readings for k88: a book is made, its deeds, its steps -/
namespace Rk
open PySem PySem.Spec PyProof.Rows L2 DH Bd Rd
local macro_rules | `(tactic| walk_at "if") => `(tactic| first | (refine ⟨fun _ => ?_, fun hc => absurd hc (by decide)⟩) | (refine ⟨fun hc => absurd hc (by decide), fun _ => ?_⟩))
def sp_Book (cl : CF) (CB : Addr) : DSp := fun ds M Q _ => ∃ (a q1 q2 : Addr) (b : BK), ds = [.ref a, .int b.w, .int b.r, .ref q1, .ref q2] ∧ ClB cl CB ∧ M a = some (.ins CB []) ∧ M q1 = some (.lst (wds b.words)) ∧ M q2 = some (.lst (b.deeds.map deedD)) ∧ b.Ok ∧
  ∀ M', But a M M' → BkM cl CB M' a b → Q .non M'
theorem r_Book__init__ (cl : CF) (CB : Addr) : ∀ ds M Q E, sp_Book cl CB ds M Q E → b_Book__init__ cl (sp_first_bad_line2 cl CB) (En Q) (startD 9 ds) M := by
  rintro ds M Q E ⟨a, q1, q2, b, rfl, hcl, ha, h1, h2, ok, h⟩
  have n1 : q1 ≠ a := fun z => by subst z; rw [ha] at h1; cases h1
  have n2 : q2 ≠ a := fun z => by subst z; rw [ha] at h2; cases h2
  have d6 := ok.d6
  refine ⟨a, CB, [], rfl, ha, hcl _ (by simp), by decide, ?_⟩
  have b1 : But a M (updM M a (.ins CB [("width", .int b.w)])) := (But.refl a M).set
  have a1 : updM M a (.ins CB [("width", .int b.w)]) a = some (.ins CB [("width", .int b.w)]) := updM_same
  show dSeq _ _ _ _ (updM M a (.ins CB [("width", .int b.w)]))
  generalize updM M a (.ins CB [("width", .int b.w)]) = M1 at b1 a1 ⊢
  refine ⟨a, CB, _, rfl, a1, hcl _ (by simp), (by show 1 < 1000; decide), ?_⟩
  have b2 : But a M (updM M1 a (.ins CB [("width", .int b.w), ("registers", .int b.r)])) := b1.set
  have a2 : updM M1 a (.ins CB [("width", .int b.w), ("registers", .int b.r)]) a = some (.ins CB [("width", .int b.w), ("registers", .int b.r)]) := updM_same
  show dSeq _ _ _ _ (updM M1 a (.ins CB [("width", .int b.w), ("registers", .int b.r)]))
  generalize updM M1 a (.ins CB [("width", .int b.w), ("registers", .int b.r)]) = M2 at b2 a2 ⊢
  refine ⟨_, b2 _ _ n1 h1, a, CB, _, rfl, a2, hcl _ (by simp), (by show 2 < 1000; decide), ?_⟩
  have b3 : But a M (updM M2 a (.ins CB [("width", .int b.w), ("registers", .int b.r), ("words", .tup (wds b.words))])) := b2.set
  have a3 : updM M2 a (.ins CB [("width", .int b.w), ("registers", .int b.r), ("words", .tup (wds b.words))]) a = some (.ins CB [("width", .int b.w), ("registers", .int b.r), ("words", .tup (wds b.words))]) := updM_same
  show dSeq _ _ _ _ (updM M2 a (.ins CB [("width", .int b.w), ("registers", .int b.r), ("words", .tup (wds b.words))]))
  generalize updM M2 a (.ins CB [("width", .int b.w), ("registers", .int b.r), ("words", .tup (wds b.words))]) = M3 at b3 a3 ⊢
  have l3 := b3 _ _ n2 h2
  refine ⟨_, l3, fun p hp => ?_⟩
  refine ⟨fun i acc M' => Ext M3 M' ∧ M' p = some (.lst acc) ∧ acc = (b.deeds.take i).map deedD, ⟨Ext.new hp, updM_same, rfl⟩, fun i acc M' ⟨e, _⟩ => e _ _ l3, ?_, ?_⟩
  · rintro i acc M' d hd ⟨hx, hp2, rfl⟩
    rw [List.getElem?_map] at hd
    obtain ⟨p', hp', rfl⟩ := Option.map_eq_some_iff.mp hd
    refine ⟨rfl, fun _ => ⟨by show 3 ≤ sizeLine; decide, hp2, by rw [List.length_map, List.length_take]; exact tolist (by omega), hx.mut hp, updM_same, ?_⟩, fun hc => absurd hc (by decide)⟩
    rw [take_snoc hp', List.map_append]; rfl
  rintro acc M' ⟨hx, hp2, rfl⟩
  rw [List.length_map, List.take_length] at hp2
  have b3' := b3.trans (.ofExt hx)
  refine ⟨_, hp2, a, CB, _, rfl, hx _ _ a3, hcl _ (by simp), (by show 3 < 1000; decide), ?_⟩
  have b4 : But a M (updM M' a (.ins CB b.fs)) := b3'.set
  have a4 : updM M' a (.ins CB b.fs) a = some (.ins CB b.fs) := updM_same
  show dSeq _ _ _ _ (updM M' a (.ins CB b.fs))
  generalize updM M' a (.ins CB b.fs) = M4 at b4 a4 ⊢
  refine ⟨a, b, rfl, ⟨a4, hcl⟩, ok, fun M5 e5 => ?_⟩
  walk_at "if"
  exact h M5 (b4.trans (.ofExt e5)) ⟨e5 _ _ a4, hcl⟩
/-! ### deed -/
theorem find_hit {α : Type} {p : α → Bool} {l : List α} {i : Nat} {d : α} (h : l[i]? = some d) (hn : (l.take i).find? p = none) (hp : p d = true) : l.find? p = some d := by
  have e : l = l.take i ++ (d :: l.drop (i + 1)) := by
    obtain ⟨hi, rfl⟩ := List.getElem?_eq_some_iff.mp h
    rw [← List.drop_eq_getElem_cons hi, List.take_append_drop]
  rw [e, List.find?_append, hn]
  simp [hp]
theorem find_skip {α : Type} {p : α → Bool} {l : List α} {i : Nat} {d : α} (h : l[i]? = some d) (hn : (l.take i).find? p = none) (hp : p d = false) : (l.take (i + 1)).find? p = none := by
  rw [take_snoc h, List.find?_append, hn]
  simp [hp]
def nmIs (n : Str) (d : Str × Nat × D) : Bool := decide (d.1 = n)
theorem BK.find_eq (b : BK) (n : Str) : b.find n = b.deeds.find? (nmIs n) := rfl
def sp_deed (cl : CF) (CB : Addr) : DSp := fun ds M Q _ => ∃ (a : Addr) (b : BK) (n : Str) (d : Str × Nat × D), ds = [.ref a, .str n] ∧ BkM cl CB M a b ∧ b.find n = some d ∧ Q (deedD d) M
theorem r_Bookdeed (cl : CF) (CB : Addr) : ∀ ds M Q E, sp_deed cl CB ds M Q E → b_Bookdeed cl (En Q) (startD 3 ds) M := by
  rintro ds M Q E ⟨a, b, n, d0, rfl, bm, hf, h⟩
  refine ⟨_, _, _, _, rfl, bm.at_, bm.cl _ (by simp), rfl, ?_⟩
  refine ⟨fun i E M' => M' = M ∧ (b.deeds.take i).find? (nmIs n) = none ∧ ∃ x, E = [some (.ref a), some (.str n), x], ⟨rfl, rfl, none, rfl⟩, fun _ _ _ _ => trivial, ?_, ?_⟩
  · rintro i E M' d hd ⟨rfl, hn, x, rfl⟩
    rw [List.getElem?_map] at hd
    obtain ⟨e, he, rfl⟩ := Option.map_eq_some_iff.mp hd
    refine ⟨_, at0, fun hb => ?_, fun hb => ?_⟩
    · have hb : nmIs n e = true := hb
      have := find_hit he hn hb
      rw [← BK.find_eq, hf] at this
      cases this
      exact h
    · have hb : nmIs n e = false := hb
      exact ⟨rfl, find_skip he hn hb, _, rfl⟩
  · rintro E M' ⟨rfl, hn, x, rfl⟩
    rw [List.length_map, List.take_length, ← BK.find_eq, hf] at hn
    cases hn
def sp_deed_x (cl : CF) (CB cN : Addr) : DSp := fun ds M Q E => ∃ (a : Addr) (b : BK) (n : Str), ds = [.ref a, .str n] ∧ BkM cl CB M a b ∧ n.length ≤ 1000 ∧ (∀ d, b.find n = some d → Q (deedD d) M) ∧ (b.find n = none → ∀ e, M e = none → E (.ref cN) (some e) (updM M e (.xd [("name", .str n)])))
theorem r_Bookdeed_x (cl : CF) (CB c_NoName : Addr) : ∀ ds M Q E, sp_deed_x cl CB c_NoName ds M Q E → b_Bookdeed_x cl c_NoName (EnX Q E) (startD 3 ds) M := by
  rintro ds M Q E ⟨a, b, n, rfl, bm, hlen, h1, h2⟩
  refine ⟨_, _, _, _, rfl, bm.at_, bm.cl _ (by simp), rfl, ?_⟩
  refine ⟨fun i E' M' => M' = M ∧ (b.deeds.take i).find? (nmIs n) = none ∧ ∃ x, E' = [some (.ref a), some (.str n), x], ⟨rfl, rfl, none, rfl⟩, fun _ _ _ _ => trivial, ?_, ?_⟩
  · rintro i E' M' d hd ⟨rfl, hn, x, rfl⟩
    rw [List.getElem?_map] at hd
    obtain ⟨e, he, rfl⟩ := Option.map_eq_some_iff.mp hd
    refine ⟨_, at0, fun hb => ?_, fun hb => ?_⟩
    · have hb : nmIs n e = true := hb
      have := find_hit he hn hb
      rw [← BK.find_eq] at this
      exact h1 _ this
    · have hb : nmIs n e = false := hb
      exact ⟨rfl, find_skip he hn hb, _, rfl⟩
  · rintro E' M' ⟨rfl, hn, x, rfl⟩
    rw [List.length_map, List.take_length, ← BK.find_eq] at hn
    exact ⟨⟨n, rfl, hlen⟩, fun e he => h2 hn e he⟩
/-! ### is_step -/
theorem inD_ints (i : Int) (l : List Nat) : inD (.int i) (wds l) = decide (i ∈ l.map Int.ofNat) := by
  induction l with
  | nil => rfl
  | cons x l ih =>
    show ((x : Int) == i || inD (.int i) (wds l)) = _
    rw [ih, Bool.eq_iff_iff]
    simp only [Bool.or_eq_true, beq_iff_eq, decide_eq_true_eq, List.map_cons, List.mem_cons]
    constructor
    · rintro (h | h)
      · exact .inl h.symm
      · exact .inr h
    · rintro (h | h)
      · exact .inl h.symm
      · exact .inr h
theorem flat_ints (l : List Nat) : (wds l).all flatD = true := by
  rw [List.all_eq_true]
  intro d hd
  obtain ⟨x, _, rfl⟩ := List.mem_map.mp hd
  rfl
def sp_is_step (cl : CF) (CB : Addr) : DSp := fun ds M Q _ => ∃ (a : Addr) (b : BK) (s : ST), ds = [.ref a, stD s] ∧ BkM cl CB M a b ∧ b.Ok ∧ s.src.length ≤ 1000 ∧ RetV M Q (.bl (isStep b s))
theorem r_Bookis_step (cl : CF) (CB : Addr) : ∀ ds M Q E, sp_is_step cl CB ds M Q E → b_Bookis_step cl sp_source_count sp_takes_word (En Q) (startD 8 ds) M := by
  rintro ds M Q E ⟨a, b, s, rfl, bm, ok, hlen, h⟩
  refine ⟨rfl, ?_⟩
  refine ⟨_, _, _, _, rfl, bm.at_, bm.cl _ (by simp), rfl, ?_⟩
  refine ⟨fun i E M' => M' = M ∧ (b.deeds.take i).find? (nmIs s.nm) = none ∧ ∃ x, E = [some (.ref a), some (stD s), some (.str s.nm), some (.tup (s.src.map .int)), some (wdD s.wd), some (.int s.tg), x, none], ⟨rfl, rfl, none, rfl⟩, fun _ _ _ _ => trivial, ?_, ?_⟩
  · rintro i E M' d hd ⟨rfl, hn, x, rfl⟩
    rw [List.getElem?_map] at hd
    obtain ⟨e, he, rfl⟩ := Option.map_eq_some_iff.mp hd
    refine ⟨_, at0, fun hb => ?_, fun hb => ?_⟩
    rotate_left
    · have hb : nmIs s.nm e = false := hb
      exact ⟨rfl, find_skip he hn hb, _, rfl⟩
    have hb : nmIs s.nm e = true := hb
    have hf := find_hit he hn hb
    rw [← BK.find_eq] at hf
    have hi : isStep b s = stepOk b s e.2.2 := by unfold isStep; rw [hf]
    rw [hi] at h
    have fo := ok.fmOk (mem_at he)
    have bad : ∀ M2, Ext M' M2 → stepOk b s e.2.2 = false → Q (.bl false) M2 := fun M2 x2 z => qb (h M2 x2) z.symm
    refine ⟨_, (rfl : atI _ 2 = some e.2.2), e.2.2, rfl, fo, fun M1 x1 => ?_⟩
    refine ⟨fun hc => ?_, fun hc => ?_⟩
    · have hc : (!decide (((s.src.map D.int).length : Int) = (srcN e.2.2 : Nat))) = true := hc
      walk_at "if"
      refine bad M1 x1 ?_
      rw [List.length_map] at hc
      have hc := of_decide_eq_false ((Bool.not_eq_true' _).mp hc)
      have : ¬ s.src.length = srcN e.2.2 := by omega
      unfold stepOk
      rw [decide_eq_false this]; rfl
    have hc : (!decide (((s.src.map D.int).length : Int) = (srcN e.2.2 : Nat))) = false := hc
    rw [List.length_map, Bool.not_eq_false'] at hc
    have hc := of_decide_eq_true hc
    have hsl : s.src.length = srcN e.2.2 := by omega
    refine ⟨fun h0 => ?_, fun h0 => ?_⟩
    rotate_left
    · have h0 : decide ((0 : Int) ≤ s.tg) = false := h0
      walk_at "if"
      refine bad M1 x1 ?_
      unfold stepOk
      rw [h0, Bool.false_and, Bool.and_false]; rfl
    have h0 : decide ((0 : Int) ≤ s.tg) = true := h0
    have bm1 := bm.ext x1
    refine ⟨_, _, _, _, rfl, bm1.at_, bm1.cl _ (by simp), rfl, ?_⟩
    refine ⟨fun hc => ?_, fun hc => ?_⟩
    · have hc : (!decide (s.tg < (b.r : Int))) = true := hc
      refine bad M1 x1 ?_
      unfold stepOk
      rw [(Bool.not_eq_true' _).mp hc, Bool.and_false, Bool.and_false]; rfl
    have hc : (!decide (s.tg < (b.r : Int))) = false := hc
    have htg : decide (s.tg < (b.r : Int)) = true := by rw [Bool.not_eq_false'] at hc; exact hc
    have e1 : stepOk b s e.2.2 = (((hasK e.2.2 == s.wd.isSome) && wdOk b s.wd) && s.src.all (srcOk b)) := by
      unfold stepOk
      rw [decide_eq_true hsl, h0, htg, Bool.true_and, Bool.true_and, Bool.true_and]
    refine ⟨_, (rfl : atI _ 2 = some e.2.2), e.2.2, rfl, fo, fun M2 x2 => ?_⟩
    have x12 := x1.trans x2
    have bm2 := bm.ext x12
    have fin : ∀ (b1 : Bool), stepOk b s e.2.2 = (b1 && s.src.all (srcOk b)) → b1 = true → ∀ y : Option D, (dRet (dL oAllL (dCons (dLc (dIter (dVar 3)) (.nm 7) dYes (dChain oLe oLt (dC (.int 0)) (dVar 7) (dFld cl "registers" (dVar 0))) [7]) (dNil))) : DS) { nx := fun E M' => (En Q).nx E M', rt := Q, bk := fun _ _ => False, ct := fun _ _ => False } [some (.ref a), some (stD s), some (.str s.nm), some (.tup (s.src.map .int)), some (wdD s.wd), some (.int s.tg), some (deedD e), none] M2 := by
      intro b1 eb1 hb1 y p hp
      refine ⟨fun j acc M3 => Ext M2 M3 ∧ M3 p = some (.lst acc) ∧ acc = ((s.src.take j).map (srcOk b)).map D.bl, ⟨Ext.new hp, updM_same, rfl⟩, fun _ _ _ _ => trivial, ?_, ?_⟩
      · rintro j acc M3 d hd ⟨hx3, hp3, rfl⟩
        rw [List.getElem?_map] at hd
        obtain ⟨v, hv, rfl⟩ := Option.map_eq_some_iff.mp hd
        have ln : (((s.src.take j).map (srcOk b)).map D.bl).length < sizeLine := tolist (by rw [List.length_map, List.length_map, List.length_take]; omega)
        have bm3 := bm2.ext hx3
        refine ⟨fun _ => ⟨fun hv0 => ?_, fun hv0 => ?_⟩, fun hc => absurd hc (by decide)⟩
        · have hv0 : decide ((0 : Int) ≤ v) = true := hv0
          refine ⟨_, _, _, _, rfl, bm3.at_, bm3.cl _ (by simp), rfl, ?_⟩
          refine ⟨hp3, ln, hx3.mut hp, updM_same, ?_⟩
          rw [take_snoc hv, List.map_append, List.map_append]
          show _ = _ ++ [D.bl (decide (0 ≤ v) && decide (v < (b.r : Int)))]
          rw [hv0, Bool.true_and]
        · have hv0 : decide ((0 : Int) ≤ v) = false := hv0
          refine ⟨hp3, ln, hx3.mut hp, updM_same, ?_⟩
          rw [take_snoc hv, List.map_append, List.map_append]
          show _ = _ ++ [D.bl (decide (0 ≤ v) && decide (v < (b.r : Int)))]
          rw [hv0, Bool.false_and]
      · rintro acc M3 ⟨hx3, hp3, rfl⟩
        rw [List.length_map, List.take_length] at hp3
        refine ⟨p, _, rfl, hp3, ?_⟩
        refine qb (h M3 (x12.trans hx3)) ?_
        rw [eb1, hb1, Bool.true_and, List.all_map]; rfl
    cases hw : s.wd with
    | none =>
      rw [hw] at e1 fin
      refine ⟨fun hc => ?_, fun hc => ?_⟩
      · have hc : (!decide (hasK e.2.2 = false)) = true := hc
        walk_at "if"
        refine bad M2 x12 ?_
        rw [e1]
        have : hasK e.2.2 = true := by simpa using hc
        rw [this]; rfl
      · have hc : (!decide (hasK e.2.2 = false)) = false := hc
        have hk : hasK e.2.2 = false := by simpa using hc
        walk_at "if"
        walk_at "if"
        exact fin _ e1 (by rw [hk]; rfl) none
    | some wv =>
      rw [hw] at e1 fin
      refine ⟨fun hc => ?_, fun hc => ?_⟩
      · have hc : (!decide (hasK e.2.2 = true)) = true := hc
        walk_at "if"
        refine bad M2 x12 ?_
        rw [e1]
        have : hasK e.2.2 = false := by simpa using hc
        rw [this]; rfl
      · have hc : (!decide (hasK e.2.2 = true)) = false := hc
        have hk : hasK e.2.2 = true := by simpa using hc
        refine ⟨fun _ => ?_, fun hc => absurd hc (by simp [nonD, wdD])⟩
        refine ⟨_, _, _, _, rfl, bm2.at_, bm2.cl _ (by simp), rfl, ?_⟩
        refine ⟨rfl, flat_ints _, ?_⟩
        refine ⟨fun hc => ?_, fun hc => ?_⟩
        · have hc : (!inD (.int wv) (wds b.words)) = true := hc
          rw [inD_ints] at hc
          refine bad M2 x12 ?_
          rw [e1, hk]
          show (true && decide (wv ∈ b.words.map Int.ofNat) && _) = false
          rw [(Bool.not_eq_true' _).mp hc]; rfl
        · have hc : (!inD (.int wv) (wds b.words)) = false := hc
          rw [inD_ints] at hc
          refine fin _ e1 ?_ none
          rw [hk]
          show (true && decide (wv ∈ b.words.map Int.ofNat)) = true
          rw [Bool.not_eq_false'] at hc
          rw [hc]; rfl
  · rintro E M' ⟨rfl, hn, x, rfl⟩
    rw [List.length_map, List.take_length, ← BK.find_eq] at hn
    refine qb (h _ (Ext.refl _)) ?_
    unfold isStep
    rw [hn]
end Rk

set_option Elab.async false
set_option linter.all false
set_option autoImplicit false
set_option maxRecDepth 100000
set_option maxHeartbeats 4000000
/-! readings for k88: all steps of a book -/
namespace Rk
open PySem PySem.Spec PyProof.Rows L2 DH Bd Rd
local macro_rules | `(tactic| walk_at "if") => `(tactic| first | (refine ⟨fun _ => ?_, fun hc => absurd hc (by decide)⟩) | (refine ⟨fun hc => absurd hc (by decide), fun _ => ?_⟩))
def stepsD (l : List ST) : List D := l.map stD
theorem stepsD_app (a b : List ST) : stepsD (a ++ b) = stepsD a ++ stepsD b := List.map_append
theorem fm_le {α β : Type} {f : α → List β} {n : Nat} : ∀ {l : List α}, (∀ x ∈ l, (f x).length ≤ n) → (l.flatMap f).length ≤ l.length * n
  | [], _ => by simp
  | a :: l, h => by
    rw [List.flatMap_cons, List.length_append, List.length_cons, Nat.succ_mul]
    have h1 := h a (by simp)
    have h2 := fm_le fun x hx => h x (List.mem_cons_of_mem _ hx)
    omega
theorem Ext.but {M M1 M2 : Mm} {p : Addr} (e : Ext M M1) (b : But p M1 M2) (h : M p = none) : Ext M M2 := fun a o q => b _ _ (fun z => by subst z; rw [h] at q; cases q) (e _ _ q)
theorem take_flat {α β : Type} (f : α → List β) {l : List α} {i : Nat} {x : α} (h : l[i]? = some x) : (l.take (i + 1)).flatMap f = (l.take i).flatMap f ++ f x := by
  rw [take_snoc h, List.flatMap_append]; simp
theorem take_map {α β : Type} (f : α → β) {l : List α} {i : Nat} {x : α} (h : l[i]? = some x) : (l.take (i + 1)).map f = (l.take i).map f ++ [f x] := map_snoc f h
def wsD (b : BK) (f : D) : List D := (wordsOf b f).map wdD
theorem wsD_yes {b : BK} {f : D} (h : hasK f = true) : wsD b f = wds b.words := by unfold wsD wordsOf; rw [if_pos h, List.map_map]; rfl
theorem wsD_no {b : BK} {f : D} (h : hasK f = false) : wsD b f = [.non] := by unfold wsD wordsOf; rw [h]; rfl
theorem wordsOf_len {b : BK} (ok : b.Ok) (f : D) : (wordsOf b f).length ≤ 16 := by
  unfold wordsOf
  have := ok.wl
  split
  · rw [List.length_map]; exact this
  · simp
abbrev tgs (b : BK) (n : Str) (row : List Nat) (wd : Option Int) : List ST := (List.range b.r).map fun t : Nat => ⟨n, row.map Int.ofNat, wd, (t : Int)⟩
theorem deedSteps_len {b : BK} (ok : b.Ok) (d : Str × Nat × D) : (deedSteps b d).length ≤ 6400 := by
  unfold deedSteps
  have r4 := ok.r4
  have h1 : ∀ row ∈ srcRows b.r (srcN d.2.2), ((wordsOf b d.2.2).flatMap fun wd => tgs b d.1 row wd).length ≤ 64 := fun row _ => by
    have := fm_le (l := wordsOf b d.2.2) (f := fun wd => tgs b d.1 row wd) (n := 4) fun wd _ => by rw [List.length_map, List.length_range]; exact r4
    have h2 := wordsOf_len ok d.2.2
    have : (wordsOf b d.2.2).length * 4 ≤ 16 * 4 := Nat.mul_le_mul_right _ h2
    omega
  have h2 := fm_le h1
  have h3 := srcRows_len b.r r4 (srcN d.2.2) (by have := srcN_le d.2.2; omega)
  have : (srcRows b.r (srcN d.2.2)).length * 64 ≤ 100 * 64 := Nat.mul_le_mul_right _ h3
  exact Nat.le_trans h2 this
def sp_steps (cl : CF) (CB : Addr) : DSp := fun ds M Q _ => ∃ (a : Addr) (b : BK), ds = [.ref a] ∧ BkM cl CB M a b ∧ b.Ok ∧ RetL M Q (stepsD b.steps)
theorem wds_row {n : Str} {row : List Nat} {wd : Option Int} {t : Nat} : stD ⟨n, row.map Int.ofNat, wd, (t : Int)⟩ = .tup [.str n, .tup (wds row), wdD wd, .int t] := by
  unfold stD
  rw [List.map_map]; rfl
def b_steps_rows (cl : CF) : DS := dFor (dIter (dCall sp_source_rows (dCons (dFld cl "registers" (dVar 0)) (dCons (dCall sp_source_count (dCons (dVar 4) (dNil))) (dNil))))) (.nm 6) (dFor (dIter (dVar 5)) (.nm 7) (dFor (dRng1 (dCons (dFld cl "registers" (dVar 0)) (dNil))) (.nm 8) (dDrop (dApp (dVar 1) (dTup (dCons (dVar 2) (dCons (dVar 6) (dCons (dVar 7) (dCons (dVar 8) (dNil))))))))))
theorem r_steps_rows {cl : CF} {CB a p pw : Addr} {b : BK} {d : Str × Nat × D} {M : Mm} {A : List ST} {D' : DEnds} {x6 x7 x8 : Option D} (ok : b.Ok) (bm : BkM cl CB M a b) (fo : FmOk d.2.2) (hap : a ≠ p) (hpw : pw ≠ p) (hA : A.length ≤ 40000) (hm : M p = some (.lst (stepsD A))) (hw : M pw = some (.lst (wsD b d.2.2)))
    (k : ∀ M' (x6 x7 x8 : Option D), But p M M' → M' p = some (.lst (stepsD (A ++ deedSteps b d))) → D'.nx [some (.ref a), some (.ref p), some (.str d.1), some (.int (d.2.1 : Nat)), some d.2.2, some (.ref pw), x6, x7, x8] M') :
    b_steps_rows cl D' [some (.ref a), some (.ref p), some (.str d.1), some (.int (d.2.1 : Nat)), some d.2.2, some (.ref pw), x6, x7, x8] M := by
  have r4 := ok.r4
  have hsn := srcN_le d.2.2
  refine ⟨_, _, _, _, rfl, bm.at_, bm.cl _ (by simp), rfl, ?_⟩
  refine ⟨d.2.2, rfl, fo, fun M1 x1 => ?_⟩
  refine ⟨b.r, srcN d.2.2, rfl, r4, by omega, fun pr M2 hpr0 x2 hpr => ?_⟩
  have x12 := x1.trans x2
  have hpr1 : pr ≠ p := Ne.symm (Ext.ne (x1 _ _ hm) hpr0)
  have hm2 := x12 _ _ hm
  have hw2 := x12 _ _ hw
  have bm2 := bm.ext x12
  refine ⟨_, hpr, ?_⟩
  refine ⟨fun i E M' => But p M2 M' ∧ M' p = some (.lst (stepsD (A ++ ((srcRows b.r (srcN d.2.2)).take i).flatMap fun row => (wordsOf b d.2.2).flatMap fun wd => tgs b d.1 row wd))) ∧ ∃ x6 x7 x8 : Option D, E = [some (.ref a), some (.ref p), some (.str d.1), some (.int (d.2.1 : Nat)), some d.2.2, some (.ref pw), x6, x7, x8], ⟨But.refl _ _, by rw [hm2]; simp, _, _, _, rfl⟩, fun i E M' ⟨b1, _⟩ => b1 _ _ hpr1 hpr, ?_, ?_⟩
  · rintro i E M' d0 hd ⟨hb, hmi, y6, y7, y8, rfl⟩
    unfold rowsD at hd
    rw [List.getElem?_map] at hd
    obtain ⟨row, hrow, rfl⟩ := Option.map_eq_some_iff.mp hd
    have lw := wordsOf_len ok d.2.2
    have hA1 : (A ++ ((srcRows b.r (srcN d.2.2)).take i).flatMap fun row => (wordsOf b d.2.2).flatMap fun wd => tgs b d.1 row wd).length ≤ 50000 := by
      have h1 : ∀ row ∈ (srcRows b.r (srcN d.2.2)).take i, ((wordsOf b d.2.2).flatMap fun wd => tgs b d.1 row wd).length ≤ 64 := fun row _ => by
        have h3 := fm_le (l := wordsOf b d.2.2) (f := fun wd => tgs b d.1 row wd) (n := 4) fun wd _ => by rw [List.length_map, List.length_range]; exact r4
        have : (wordsOf b d.2.2).length * 4 ≤ 16 * 4 := Nat.mul_le_mul_right _ lw
        omega
      have h2 := fm_le h1
      have h3 := srcRows_len b.r r4 (srcN d.2.2) (by omega)
      rw [List.length_take] at h2
      have : min i (srcRows b.r (srcN d.2.2)).length * 64 ≤ 100 * 64 := Nat.mul_le_mul_right _ (by omega)
      rw [List.length_append]; omega
    have et : ∀ B : List ST, B = A ++ (((srcRows b.r (srcN d.2.2)).take i).flatMap fun row => (wordsOf b d.2.2).flatMap fun wd => tgs b d.1 row wd) → B ++ ((wordsOf b d.2.2).flatMap fun wd => tgs b d.1 row wd) = A ++ (((srcRows b.r (srcN d.2.2)).take (i + 1)).flatMap fun row => (wordsOf b d.2.2).flatMap fun wd => tgs b d.1 row wd) := fun B e => by
      rw [e, take_flat _ hrow, List.append_assoc]
    obtain ⟨B, eB⟩ : ∃ B, B = A ++ (((srcRows b.r (srcN d.2.2)).take i).flatMap fun row => (wordsOf b d.2.2).flatMap fun wd => tgs b d.1 row wd) := ⟨_, rfl⟩
    have et := et B eB
    rw [← eB] at hmi hA1
    have hwi := hb _ _ hpw hw2
    refine ⟨_, hwi, ?_⟩
    refine ⟨fun j E M3 => But p M2 M3 ∧ M3 p = some (.lst (stepsD (B ++ ((wordsOf b d.2.2).take j).flatMap fun wd => tgs b d.1 row wd))) ∧ ∃ x7 x8 : Option D, E = [some (.ref a), some (.ref p), some (.str d.1), some (.int (d.2.1 : Nat)), some d.2.2, some (.ref pw), some (.tup (wds row)), x7, x8], ⟨hb, by rw [hmi]; simp, _, _, rfl⟩, fun j E M3 ⟨b1, _⟩ => b1 _ _ hpw hw2, ?_, ?_⟩
    · rintro j E M3 d0 hd ⟨hb3, hm3, z7, z8, rfl⟩
      unfold wsD at hd
      rw [List.getElem?_map] at hd
      obtain ⟨wd, hwd, rfl⟩ := Option.map_eq_some_iff.mp hd
      have hjl := lt_at hwd
      have hB1 : (B ++ ((wordsOf b d.2.2).take j).flatMap fun wd => tgs b d.1 row wd).length ≤ 60000 := by
        have h3 := fm_le (l := (wordsOf b d.2.2).take j) (f := fun wd => tgs b d.1 row wd) (n := 4) fun wd _ => by rw [List.length_map, List.length_range]; exact r4
        rw [List.length_take] at h3
        have : min j (wordsOf b d.2.2).length * 4 ≤ 16 * 4 := Nat.mul_le_mul_right _ (by omega)
        rw [List.length_append]; omega
      have et2 : ∀ B2 : List ST, B2 = B ++ (((wordsOf b d.2.2).take j).flatMap fun wd => tgs b d.1 row wd) → B2 ++ tgs b d.1 row wd = B ++ (((wordsOf b d.2.2).take (j + 1)).flatMap fun wd => tgs b d.1 row wd) := fun B2 e => by
        rw [e, take_flat _ hwd, List.append_assoc]
      obtain ⟨B2, eB2⟩ : ∃ B2, B2 = B ++ (((wordsOf b d.2.2).take j).flatMap fun wd => tgs b d.1 row wd) := ⟨_, rfl⟩
      have et2 := et2 B2 eB2
      rw [← eB2] at hm3 hB1
      have bm3 : BkM cl CB M3 a b := ⟨hb3 _ _ hap bm2.at_, bm2.cl⟩
      refine ⟨_, _, _, _, rfl, bm3.at_, bm3.cl _ (by simp), rfl, ?_⟩
      refine ⟨by omega, by omega, ?_⟩
      refine ⟨fun l E M4 => But p M2 M4 ∧ M4 p = some (.lst (stepsD (B2 ++ ((List.range b.r).take l).map fun t : Nat => (⟨d.1, row.map Int.ofNat, wd, (t : Int)⟩ : ST)))) ∧ ∃ x8 : Option D, E = [some (.ref a), some (.ref p), some (.str d.1), some (.int (d.2.1 : Nat)), some d.2.2, some (.ref pw), some (.tup (wds row)), some (wdD wd), x8], ⟨hb3, by rw [hm3]; simp, _, rfl⟩, fun _ _ _ _ => trivial, ?_, ?_⟩
      · rintro l E M4 d0 hd ⟨hb4, hm4, z8, rfl⟩
        obtain ⟨hl, rfl⟩ := rng_at hd
        have hl : l < b.r := by have : l < (b.r : Int).toNat := hl; omega
        rw [Int.zero_add]
        refine ⟨⟨_, hm4⟩, by show 4 ≤ sizeLine; decide, _, hm4, tolist ?_, hb4.set, ?_, _, rfl⟩
        · unfold stepsD
          rw [List.length_map, List.length_append, List.length_map, List.length_take, List.length_range]; omega
        · have hk2 : (List.range b.r)[l]? = some l := by simp [hl]
          rw [updM_same, take_snoc hk2, List.map_append, ← List.append_assoc, stepsD_app _ (List.map _ [l])]
          show _ = some (MO.lst (_ ++ [stD _]))
          rw [wds_row]
      · rintro E M4 ⟨hb4, hm4, z8, rfl⟩
        refine ⟨hb4, ?_, _, _, rfl⟩
        rw [rng_len, show (b.r : Int).toNat = b.r by omega, show (List.range b.r).take b.r = List.range b.r from by rw [List.take_of_length_le (by simp)]] at hm4
        rw [hm4, ← et2]
    · rintro E M3 ⟨hb3, hm3, z7, z8, rfl⟩
      refine ⟨hb3, ?_, _, _, _, rfl⟩
      unfold wsD at hm3
      rw [List.length_map, List.take_length] at hm3
      rw [hm3, et]
  · rintro E M' ⟨hb, hmi, y6, y7, y8, rfl⟩
    unfold rowsD at hmi
    rw [List.length_map, List.take_length] at hmi
    exact k M' _ _ _ ((But.ofExt x12).trans hb) hmi
theorem r_Booksteps (cl : CF) (CB : Addr) : ∀ ds M Q E, sp_steps cl CB ds M Q E → b_Booksteps cl sp_takes_word sp_source_rows sp_source_count (En Q) (startD 9 ds) M := by
  rintro ds M Q E ⟨a, b, rfl, bm, ok, h⟩
  have r4 := ok.r4
  have d6 := ok.d6
  refine ⟨by show 0 ≤ sizeLine; decide, fun p hp => ?_⟩
  have pm : updM M p (.lst []) p = some (.lst []) := updM_same
  have xp : Ext M (updM M p (.lst [])) := Ext.new hp
  have hap : a ≠ p := Ext.ne bm.at_ hp
  generalize updM M p (.lst []) = M0 at pm xp ⊢
  have bm0 := bm.ext xp
  refine ⟨_, _, _, _, rfl, bm0.at_, bm0.cl _ (by simp), rfl, ?_⟩
  refine ⟨fun i E M' => But p M0 M' ∧ M' p = some (.lst (stepsD ((b.deeds.take i).flatMap (deedSteps b)))) ∧ ∃ x2 x3 x4 x5 x6 x7 x8 : Option D, E = [some (.ref a), some (.ref p), x2, x3, x4, x5, x6, x7, x8], ⟨But.refl _ _, pm, none, none, none, none, none, none, none, rfl⟩, fun _ _ _ _ => trivial, ?_, ?_⟩
  · rintro i E M' d0 hd ⟨hb, hm, x2, x3, x4, x5, x6, x7, x8, rfl⟩
    rw [List.getElem?_map] at hd
    obtain ⟨d, he, rfl⟩ := Option.map_eq_some_iff.mp hd
    have hi := lt_at he
    have fo := ok.fmOk (mem_at he)
    have hA : ((b.deeds.take i).flatMap (deedSteps b)).length ≤ 40000 := by
      have := fm_le (l := b.deeds.take i) (f := deedSteps b) fun x _ => deedSteps_len ok x
      rw [List.length_take] at this
      have : min i b.deeds.length * 6400 ≤ 6 * 6400 := Nat.mul_le_mul_right _ (by omega)
      omega
    refine ⟨rfl, ?_⟩
    refine ⟨by show 1 ≤ sizeLine; decide, fun q hq => ?_⟩
    have xq : Ext M' (updM M' q (.lst [.non])) := Ext.new hq
    have qm : updM M' q (.lst [.non]) q = some (.lst [.non]) := updM_same
    have hpq : q ≠ p := fun z => by subst z; rw [hm] at hq; cases hq
    have pm1 := xq _ _ hm
    have hb1 : But p M0 (updM M' q (.lst [.non])) := hb.trans (.ofExt xq)
    generalize updM M' q (.lst [.non]) = M1 at xq qm pm1 hb1 ⊢
    refine ⟨d.2.2, rfl, fo, fun M2 y2 => ?_⟩
    have hb2 : But p M0 M2 := hb1.trans (.ofExt y2)
    have pm2 := y2 _ _ pm1
    have bm2 : BkM cl CB M2 a b := ⟨hb2 _ _ hap bm0.at_, bm0.cl⟩
    refine ⟨fun hk => ?_, fun hk => ?_⟩
    · refine ⟨_, _, _, _, rfl, bm2.at_, bm2.cl _ (by simp), rfl, ?_⟩
      intro pw hpw
      have xw : Ext M2 (updM M2 pw (.lst (wds b.words))) := Ext.new hpw
      have hwm : updM M2 pw (.lst (wds b.words)) pw = some (.lst (wsD b d.2.2)) := by rw [updM_same, wsD_yes hk]
      have hpn : pw ≠ p := fun z => by subst z; rw [pm2] at hpw; cases hpw
      exact r_steps_rows (d := d) ok (bm2.ext xw) fo hap hpn hA (xw _ _ pm2) hwm fun M4 y6 y7 y8 b4 m4 => ⟨(hb2.trans (.ofExt xw)).trans b4, by rw [m4, take_flat _ he], _, _, _, _, _, _, _, rfl⟩
    · exact r_steps_rows (d := d) ok bm2 fo hap hpq hA pm2 (by rw [y2 _ _ qm, wsD_no hk]) fun M4 y6 y7 y8 b4 m4 => ⟨hb2.trans b4, by rw [m4, take_flat _ he], _, _, _, _, _, _, _, rfl⟩
  · rintro E M' ⟨hb, hm, x2, x3, x4, x5, x6, x7, x8, rfl⟩
    rw [List.length_map, List.take_length] at hm
    exact h p M' hp (Ext.but xp hb hp) hm
end Rk

set_option Elab.async false
set_option linter.all false
set_option autoImplicit false
set_option maxRecDepth 100000
set_option maxHeartbeats 4000000
/-! readings for k88: the number of codes -/
namespace Rk
open PySem PySem.Spec PyProof.Rows L2 DH Bd Rd
local macro_rules | `(tactic| walk_at "if") => `(tactic| first | (refine ⟨fun _ => ?_, fun hc => absurd hc (by decide)⟩) | (refine ⟨fun hc => absurd hc (by decide), fun _ => ?_⟩))
theorem wds_ints (l : List Nat) : wds l = (l.map Int.ofNat).map D.int := by rw [List.map_map]; rfl
theorem sum_ints (l : List Nat) : (l.map Int.ofNat).sum = ((l.sum : Nat) : Int) := by
  induction l with
  | nil => rfl
  | cons x l ih => rw [List.map_cons, List.sum_cons, List.sum_cons, ih]; simp
theorem wds_len (l : List Nat) : (wds l).length = l.length := List.length_map ..
theorem wds_snoc (l : List Nat) (x : Nat) : wds (l ++ [x]) = wds l ++ [.int x] := by unfold wds; rw [List.map_append]; rfl
theorem counts_len (b : BK) : ∀ n, (counts b n).length = n + 1
  | 0 => rfl
  | n + 1 => by simp only [counts, List.length_append, counts_len b n]; rfl
def cTerm (b : BK) (n : Nat) (d : Str × Nat × D) : Nat := if d.2.1 ≤ n + 1 then stepCount b d.2.2 * (counts b n).getD (n + 1 - d.2.1) 0 else 0
theorem counts_succ (b : BK) (n : Nat) : counts b (n + 1) = counts b n ++ [(b.deeds.map (cTerm b n)).sum] := rfl
theorem stepCount_le {b : BK} (ok : b.Ok) (f : D) : stepCount b f ≤ 1024 := by
  unfold stepCount
  have r4 := ok.r4
  have h1 : b.r * b.r ^ srcN f ≤ 64 := by
    have : ∀ r : Fin 5, ∀ i : Fin 3, r.1 * r.1 ^ i.1 ≤ 64 := by decide
    exact this ⟨b.r, by omega⟩ ⟨srcN f, by have := srcN_le f; omega⟩
  have h2 : (if hasK f then b.words.length else 1) ≤ 16 := by have := ok.wl; split <;> omega
  exact Nat.le_trans (Nat.mul_le_mul h1 h2) (by decide)
theorem getD_at {l : List Nat} {i : Nat} (h : i < l.length) : l[i]? = some (l.getD i 0) := by rw [List.getD_eq_getElem?_getD, List.getElem?_eq_getElem h]; rfl
def sp_codes_within (cl : CF) (CB : Addr) : DSp := fun ds M Q _ => ∃ (a : Addr) (b : BK) (n : Nat), ds = [.ref a, .int n] ∧ BkM cl CB M a b ∧ b.Ok ∧ n ≤ 200 ∧ RetV M Q (.int ((counts b n).sum : Nat))
theorem r_Bookcodes_within (cl : CF) (CB : Addr) : ∀ ds M Q E, sp_codes_within cl CB ds M Q E → b_Bookcodes_within cl (sp_step_count cl CB) (En Q) (startD 8 ds) M := by
  rintro ds M Q E ⟨a, b, n, rfl, bm, ok, hn, h⟩
  have d6 := ok.d6
  refine ⟨by show 1 ≤ sizeLine; decide, fun p hp => ?_⟩
  have pm : updM M p (.lst [.int 1]) p = some (.lst (wds (counts b 0))) := updM_same
  have xp : Ext M (updM M p (.lst [.int 1])) := Ext.new hp
  have hap : a ≠ p := Ext.ne bm.at_ hp
  generalize updM M p (.lst [.int 1]) = M0 at pm xp ⊢
  refine ⟨⟨by omega, by omega, by omega, by omega⟩, ?_⟩
  refine ⟨fun i E M' => Ext M M' ∧ M' p = some (.lst (wds (counts b i))) ∧ ∃ x3 x4 x5 x6 x7 : Option D, E = [some (.ref a), some (.int n), some (.ref p), x3, x4, x5, x6, x7], ⟨xp, pm, none, none, none, none, none, rfl⟩, fun _ _ _ _ => trivial, ?_, ?_⟩
  · rintro i E M' d0 hd ⟨hx, hm, x3, x4, x5, x6, x7, rfl⟩
    obtain ⟨hi, rfl⟩ := rng_at hd
    have hi : i < n := by have : i < ((n : Int) + 1 - 1).toNat := hi; omega
    have bm1 := bm.ext hx
    refine ⟨_, _, _, _, rfl, bm1.at_, bm1.cl _ (by simp), rfl, ?_⟩
    refine ⟨fun j E M2 => Ext M' M2 ∧ ∃ x5 x6 x7 : Option D, E = [some (.ref a), some (.int n), some (.ref p), some (.int (1 + (i : Int))), some (.int (((b.deeds.take j).map (cTerm b i)).sum : Nat)), x5, x6, x7], ⟨Ext.refl _, _, _, _, rfl⟩, fun _ _ _ _ => trivial, ?_, ?_⟩
    · rintro j E M2 d0 hd ⟨hx2, y5, y6, y7, rfl⟩
      rw [List.getElem?_map] at hd
      obtain ⟨d, he, rfl⟩ := Option.map_eq_some_iff.mp hd
      have hpr := ok.pr d (mem_at he)
      have fo := ok.fmOk (mem_at he)
      have st : ((b.deeds.take (j + 1)).map (cTerm b i)).sum = ((b.deeds.take j).map (cTerm b i)).sum + cTerm b i d := by rw [take_snoc he, List.map_append, List.sum_append]; simp
      refine ⟨rfl, fun hb => ?_, fun hb => ?_⟩
      · have hb : d.2.1 ≤ i + 1 := by
          have hb : decide (((d.2.1 : Nat) : Int) ≤ 1 + (i : Int)) = true := hb
          have := of_decide_eq_true hb; omega
        refine ⟨a, b, d.2.2, rfl, bm1.ext hx2, ok, fo, fun M3 x3' => ?_⟩
        have hidx : i + 1 - d.2.1 < (counts b i).length := by rw [counts_len]; omega
        have hm3 := x3' _ _ (hx2 _ _ hm)
        refine .inl ⟨_, _, .int ((counts b i).getD (i + 1 - d.2.1) 0 : Nat), hm3, rfl, ?_, ?_⟩
        · rw [show (1 + (i : Int) - ((d.2.1 : Nat) : Int)) = ((i + 1 - d.2.1 : Nat) : Int) by omega]
          exact atI_nat (wds_at (getD_at hidx))
        · have sl := stepCount_le ok d.2.2
          refine ⟨.inl ⟨by omega, by omega⟩, hx2.trans x3', some (.str d.1), some (.int (d.2.1 : Nat)), some d.2.2, ?_⟩
          show [some (D.ref a), some (D.int n), some (D.ref p), some (D.int (1 + (i : Int))), some (D.int _), some (D.str d.1), some (D.int (d.2.1 : Nat)), some d.2.2] = _
          rw [st, nmul]
          unfold cTerm
          rw [if_pos hb]
          push_cast
          rfl
      · have hb : ¬ d.2.1 ≤ i + 1 := by
          have hb : decide (((d.2.1 : Nat) : Int) ≤ 1 + (i : Int)) = false := hb
          have := of_decide_eq_false hb; omega
        refine ⟨hx2, some (.str d.1), some (.int (d.2.1 : Nat)), some d.2.2, ?_⟩
        rw [st]
        unfold cTerm
        rw [if_neg hb]
        rfl
    · rintro E M2 ⟨hx2, y5, y6, y7, rfl⟩
      rw [List.length_map, List.take_length]
      have hm2 := hx2 _ _ hm
      refine ⟨⟨_, hm2⟩, _, hm2, tolist (by rw [wds_len, counts_len]; omega), (hx.trans hx2).mut hp, ?_, _, _, _, _, _, rfl⟩
      rw [updM_same, counts_succ, wds_snoc]
  · rintro E M' ⟨hx, hm, x3, x4, x5, x6, x7, rfl⟩
    have hm : M' p = some (.lst (wds (counts b n))) := by
      have hl : (rngD 1 ((n : Int) + 1 - 1).toNat).length = n := by rw [rng_len]; omega
      have hm : M' p = some (.lst (wds (counts b (rngD 1 ((n : Int) + 1 - 1).toNat).length))) := hm
      rw [hl] at hm; exact hm
    rw [wds_ints] at hm
    exact ⟨p, _, rfl, hm, qi (h M' hx) (sum_ints _)⟩
/-! ### the law's way to count -/
def priceIs (p : Nat) (b : BK) (d : Str × Nat × D) : Nat := if d.2.1 = p then stepCount b d.2.2 else 0
def manyF (b : BK) (p : Nat) : Nat := (b.deeds.map (priceIs p b)).sum
def lcounts (m : Nat → Nat) : Nat → List Nat
  | 0 => [1]
  | n + 1 => let c := lcounts m n; c ++ [((List.range (min (n + 1) 9)).map fun k => m (k + 1) * c.getD (n + 1 - (k + 1)) 0).sum]
theorem lcounts_len (m : Nat → Nat) : ∀ n, (lcounts m n).length = n + 1
  | 0 => rfl
  | n + 1 => by simp only [lcounts, List.length_append, lcounts_len m n]; rfl
theorem single_sum (q x : Nat) (g : Nat → Nat) : ∀ n, ((List.range n).map fun k => (if q = k + 1 then x else 0) * g (k + 1)).sum = if 1 ≤ q ∧ q ≤ n then x * g q else 0
  | 0 => by rw [if_neg (by omega)]; rfl
  | n + 1 => by
    rw [List.range_succ, List.map_append, List.sum_append, single_sum q x g n]
    by_cases h1 : q = n + 1
    · subst h1
      rw [if_neg (by omega), if_pos (by omega)]
      simp
    · by_cases h2 : 1 ≤ q ∧ q ≤ n
      · rw [if_pos h2, if_pos (by omega)]
        simp [h1]
      · rw [if_neg h2, if_neg (by omega)]
        simp [h1]
theorem sum_zero (n : Nat) : ((List.range n).map fun _ => (0 : Nat)).sum = 0 := by
  induction n with
  | zero => rfl
  | succ n ih => rw [List.range_succ, List.map_append, List.sum_append, ih]; rfl
theorem sum_add (f g : Nat → Nat) (n : Nat) : ((List.range n).map fun k => f k + g k).sum = ((List.range n).map f).sum + ((List.range n).map g).sum := by
  induction n with
  | zero => rfl
  | succ n ih =>
    rw [List.range_succ, List.map_append, List.map_append, List.map_append, List.sum_append, List.sum_append, List.sum_append, ih]
    simp; omega
theorem regroup (b : BK) (t : Nat) (c : Nat → Nat) : ∀ ds : List (Str × Nat × D), (∀ d ∈ ds, 1 ≤ d.2.1 ∧ d.2.1 ≤ 9) →
    (ds.map fun d => if d.2.1 ≤ t then stepCount b d.2.2 * c (t - d.2.1) else 0).sum = ((List.range (min t 9)).map fun k => (ds.map (priceIs (k + 1) b)).sum * c (t - (k + 1))).sum
  | [], _ => by simp [sum_zero]
  | d :: ds, h => by
    have ih := regroup b t c ds fun x hx => h x (List.mem_cons_of_mem _ hx)
    have hd := h d (by simp)
    have h1 := single_sum d.2.1 (stepCount b d.2.2) (fun q => c (t - q)) (min t 9)
    rw [List.map_cons, List.sum_cons, ih]
    have h2 : (fun k => ((d :: ds).map (priceIs (k + 1) b)).sum * c (t - (k + 1))) = fun k => (if d.2.1 = k + 1 then stepCount b d.2.2 else 0) * c (t - (k + 1)) + (ds.map (priceIs (k + 1) b)).sum * c (t - (k + 1)) := by
      funext k
      rw [List.map_cons, List.sum_cons, Nat.add_mul]
      rfl
    rw [h2, sum_add, h1]
    congr 1
    by_cases h3 : d.2.1 ≤ t
    · rw [if_pos h3, if_pos (by omega)]
    · rw [if_neg h3, if_neg (by omega)]
theorem lcounts_eq {b : BK} (ok : b.Ok) : ∀ n, lcounts (manyF b) n = counts b n
  | 0 => rfl
  | n + 1 => by
    rw [counts_succ]
    simp only [lcounts]
    rw [lcounts_eq ok n]
    congr 2
    have := regroup b (n + 1) (fun k => (counts b n).getD k 0) b.deeds ok.pr
    exact this.symm
end Rk

set_option Elab.async false
set_option linter.all false
set_option autoImplicit false
set_option maxRecDepth 100000
set_option maxHeartbeats 4000000
/-! readings for k88: the law's deeds, steps, counts -/
namespace Rk
open PySem PySem.Spec PyProof.Rows L2 DH Bd Rd
local macro_rules | `(tactic| walk_at "if") => `(tactic| first | (refine ⟨fun _ => ?_, fun hc => absurd hc (by decide)⟩) | (refine ⟨fun hc => absurd hc (by decide), fun _ => ?_⟩))
/-- the law's data of a book -/
structure DaB (M : Mm) (a aw ad : Addr) (b : BK) : Prop where
  h0 : M a = some (.lst [.int b.w, .int b.r, .ref aw, .ref ad])
  h1 : M aw = some (.lst (wds b.words))
  h2 : M ad = some (.lst (b.deeds.map deedD))
theorem DaB.ext {M M' : Mm} {a aw ad : Addr} {b : BK} (h : DaB M a aw ad b) (e : Ext M M') : DaB M' a aw ad b := ⟨e _ _ h.h0, e _ _ h.h1, e _ _ h.h2⟩
theorem DaB.but {M M' : Mm} {a aw ad p : Addr} {b : BK} (h : DaB M a aw ad b) (e : But p M M') (n0 : a ≠ p) (n1 : aw ≠ p) (n2 : ad ≠ p) : DaB M' a aw ad b := ⟨e _ _ n0 h.h0, e _ _ n1 h.h1, e _ _ n2 h.h2⟩
def sp_ldeed : DSp := fun ds M Q _ => ∃ (a aw ad : Addr) (b : BK) (n : Str) (d : Str × Nat × D), ds = [.ref a, .str n] ∧ DaB M a aw ad b ∧ b.find n = some d ∧ Q (deedD d) M
theorem r__law_deed : ∀ ds M Q E, sp_ldeed ds M Q E → b__law_deed (En Q) (startD 3 ds) M := by
  rintro ds M Q E ⟨a, aw, ad, b, n, d0, rfl, da, hf, h⟩
  refine .inl ⟨_, _, .ref ad, da.h0, rfl, rfl, _, da.h2, ?_⟩
  refine ⟨fun i E M' => M' = M ∧ (b.deeds.take i).find? (nmIs n) = none ∧ ∃ x, E = [some (.ref a), some (.str n), x], ⟨rfl, rfl, none, rfl⟩, fun i E M' ⟨e, _⟩ => by rw [e]; exact da.h2, ?_, ?_⟩
  · rintro i E M' d hd ⟨rfl, hn, x, rfl⟩
    rw [List.getElem?_map] at hd
    obtain ⟨e, he, rfl⟩ := Option.map_eq_some_iff.mp hd
    refine ⟨_, at0, fun hb => ?_, fun hb => ?_⟩
    · have hb : nmIs n e = true := hb
      have := find_hit he hn hb
      rw [← BK.find_eq, hf] at this
      cases this
      exact h
    · have hb : nmIs n e = false := hb
      exact ⟨rfl, find_skip he hn hb, _, rfl⟩
  · rintro E M' ⟨rfl, hn, x, rfl⟩
    rw [List.length_map, List.take_length, ← BK.find_eq, hf] at hn
    cases hn
/-! ### steps -/
theorem cdiv {i : Int} {r : Nat} (h1 : 1 ≤ r) (h4 : r ≤ 1000) : CDiv i (r : Int) := ⟨by omega, by omega⟩
theorem rows_one : ∀ r : Fin 5, srcRows r.1 1 = (List.range r.1).map fun x => [x] := by decide
theorem rows_two : ∀ r : Fin 5, srcRows r.1 2 = (List.range (r.1 * r.1)).map fun k => [k / r.1, k % r.1] := by decide
def b_lsteps_rows : DS := dFor (dIter (dVar 5)) (.nm 9) (dFor (dIter (dVar 8)) (.nm 10) (dFor (dRng1 (dCons (dOp oIx (dVar 0) (dC (.int 1))) (dNil))) (.nm 11) (dDrop (dApp (dVar 1) (dTup (dCons (dVar 2) (dCons (dVar 9) (dCons (dVar 10) (dCons (dVar 11) (dNil))))))))))
abbrev EnvLS (a p pr pw : Addr) (d : Str × Nat × D) (x6 x7 x9 x10 x11 : Option D) : DEnv := [some (.ref a), some (.ref p), some (.str d.1), some (.int (d.2.1 : Nat)), some d.2.2, some (.ref pr), x6, x7, some (.ref pw), x9, x10, x11]
theorem r_lsteps_rows {a aw ad p pr pw : Addr} {b : BK} {d : Str × Nat × D} {M2 : Mm} {A : List ST} {D' : DEnds} {x6 x7 x9 x10 x11 : Option D} (ok : b.Ok) (da : DaB M2 a aw ad b) (hap : a ≠ p) (hpw : pw ≠ p) (hpr1 : pr ≠ p) (hA : A.length ≤ 40000) (hm2 : M2 p = some (.lst (stepsD A))) (hw2 : M2 pw = some (.lst (wsD b d.2.2)))
    (hpr : M2 pr = some (.lst (rowsD (srcRows b.r (srcN d.2.2)))))
    (k : ∀ M' (x9 x10 x11 : Option D), But p M2 M' → M' p = some (.lst (stepsD (A ++ deedSteps b d))) → D'.nx (EnvLS a p pr pw d x6 x7 x9 x10 x11) M') :
    b_lsteps_rows D' (EnvLS a p pr pw d x6 x7 x9 x10 x11) M2 := by
  have r4 := ok.r4
  have hsn := srcN_le d.2.2
  refine ⟨_, hpr, ?_⟩
  refine ⟨fun i E M' => But p M2 M' ∧ M' p = some (.lst (stepsD (A ++ ((srcRows b.r (srcN d.2.2)).take i).flatMap fun row => (wordsOf b d.2.2).flatMap fun wd => tgs b d.1 row wd))) ∧ ∃ x9 x10 x11 : Option D, E = EnvLS a p pr pw d x6 x7 x9 x10 x11, ⟨But.refl _ _, by rw [hm2]; simp, _, _, _, rfl⟩, fun i E M' ⟨b1, _⟩ => b1 _ _ hpr1 hpr, ?_, ?_⟩
  · rintro i E M' d0 hd ⟨hb, hmi, y6, y7, y8, rfl⟩
    unfold rowsD at hd
    rw [List.getElem?_map] at hd
    obtain ⟨row, hrow, rfl⟩ := Option.map_eq_some_iff.mp hd
    have lw := wordsOf_len ok d.2.2
    have hA1 : (A ++ ((srcRows b.r (srcN d.2.2)).take i).flatMap fun row => (wordsOf b d.2.2).flatMap fun wd => tgs b d.1 row wd).length ≤ 50000 := by
      have h1 : ∀ row ∈ (srcRows b.r (srcN d.2.2)).take i, ((wordsOf b d.2.2).flatMap fun wd => tgs b d.1 row wd).length ≤ 64 := fun row _ => by
        have h3 := fm_le (l := wordsOf b d.2.2) (f := fun wd => tgs b d.1 row wd) (n := 4) fun wd _ => by rw [List.length_map, List.length_range]; exact r4
        have : (wordsOf b d.2.2).length * 4 ≤ 16 * 4 := Nat.mul_le_mul_right _ lw
        omega
      have h2 := fm_le h1
      have h3 := srcRows_len b.r r4 (srcN d.2.2) (by omega)
      rw [List.length_take] at h2
      have : min i (srcRows b.r (srcN d.2.2)).length * 64 ≤ 100 * 64 := Nat.mul_le_mul_right _ (by omega)
      rw [List.length_append]; omega
    have et : ∀ B : List ST, B = A ++ (((srcRows b.r (srcN d.2.2)).take i).flatMap fun row => (wordsOf b d.2.2).flatMap fun wd => tgs b d.1 row wd) → B ++ ((wordsOf b d.2.2).flatMap fun wd => tgs b d.1 row wd) = A ++ (((srcRows b.r (srcN d.2.2)).take (i + 1)).flatMap fun row => (wordsOf b d.2.2).flatMap fun wd => tgs b d.1 row wd) := fun B e => by
      rw [e, take_flat _ hrow, List.append_assoc]
    obtain ⟨B, eB⟩ : ∃ B, B = A ++ (((srcRows b.r (srcN d.2.2)).take i).flatMap fun row => (wordsOf b d.2.2).flatMap fun wd => tgs b d.1 row wd) := ⟨_, rfl⟩
    have et := et B eB
    rw [← eB] at hmi hA1
    have hwi := hb _ _ hpw hw2
    refine ⟨_, hwi, ?_⟩
    refine ⟨fun j E M3 => But p M2 M3 ∧ M3 p = some (.lst (stepsD (B ++ ((wordsOf b d.2.2).take j).flatMap fun wd => tgs b d.1 row wd))) ∧ ∃ x10 x11 : Option D, E = EnvLS a p pr pw d x6 x7 (some (.tup (wds row))) x10 x11, ⟨hb, by rw [hmi]; simp, _, _, rfl⟩, fun j E M3 ⟨b1, _⟩ => b1 _ _ hpw hw2, ?_, ?_⟩
    · rintro j E M3 d0 hd ⟨hb3, hm3, z7, z8, rfl⟩
      unfold wsD at hd
      rw [List.getElem?_map] at hd
      obtain ⟨wd, hwd, rfl⟩ := Option.map_eq_some_iff.mp hd
      have hjl := lt_at hwd
      have hB1 : (B ++ ((wordsOf b d.2.2).take j).flatMap fun wd => tgs b d.1 row wd).length ≤ 60000 := by
        have h3 := fm_le (l := (wordsOf b d.2.2).take j) (f := fun wd => tgs b d.1 row wd) (n := 4) fun wd _ => by rw [List.length_map, List.length_range]; exact r4
        rw [List.length_take] at h3
        have : min j (wordsOf b d.2.2).length * 4 ≤ 16 * 4 := Nat.mul_le_mul_right _ (by omega)
        rw [List.length_append]; omega
      have et2 : ∀ B2 : List ST, B2 = B ++ (((wordsOf b d.2.2).take j).flatMap fun wd => tgs b d.1 row wd) → B2 ++ tgs b d.1 row wd = B ++ (((wordsOf b d.2.2).take (j + 1)).flatMap fun wd => tgs b d.1 row wd) := fun B2 e => by
        rw [e, take_flat _ hwd, List.append_assoc]
      obtain ⟨B2, eB2⟩ : ∃ B2, B2 = B ++ (((wordsOf b d.2.2).take j).flatMap fun wd => tgs b d.1 row wd) := ⟨_, rfl⟩
      have et2 := et2 B2 eB2
      rw [← eB2] at hm3 hB1
      refine .inl ⟨_, _, .int b.r, hb3 _ _ hap da.h0, rfl, rfl, ?_⟩
      refine ⟨by omega, by omega, ?_⟩
      refine ⟨fun l E M4 => But p M2 M4 ∧ M4 p = some (.lst (stepsD (B2 ++ ((List.range b.r).take l).map fun t : Nat => (⟨d.1, row.map Int.ofNat, wd, (t : Int)⟩ : ST)))) ∧ ∃ x11 : Option D, E = EnvLS a p pr pw d x6 x7 (some (.tup (wds row))) (some (wdD wd)) x11, ⟨hb3, by rw [hm3]; simp, _, rfl⟩, fun _ _ _ _ => trivial, ?_, ?_⟩
      · rintro l E M4 d0 hd ⟨hb4, hm4, z8, rfl⟩
        obtain ⟨hl, rfl⟩ := rng_at hd
        have hl : l < b.r := by have : l < (b.r : Int).toNat := hl; omega
        rw [Int.zero_add]
        refine ⟨⟨_, hm4⟩, by show 4 ≤ sizeLine; decide, _, hm4, tolist ?_, hb4.set, ?_, _, rfl⟩
        · unfold stepsD
          rw [List.length_map, List.length_append, List.length_map, List.length_take, List.length_range]; omega
        · have hk2 : (List.range b.r)[l]? = some l := by simp [hl]
          rw [updM_same, take_snoc hk2, List.map_append, ← List.append_assoc, stepsD_app _ (List.map _ [l])]
          show _ = some (MO.lst (_ ++ [stD _]))
          rw [wds_row]
      · rintro E M4 ⟨hb4, hm4, z8, rfl⟩
        refine ⟨hb4, ?_, _, _, rfl⟩
        rw [rng_len, show (b.r : Int).toNat = b.r by omega, show (List.range b.r).take b.r = List.range b.r from by rw [List.take_of_length_le (by simp)]] at hm4
        rw [hm4, ← et2]
    · rintro E M3 ⟨hb3, hm3, z7, z8, rfl⟩
      refine ⟨hb3, ?_, _, _, _, rfl⟩
      unfold wsD at hm3
      rw [List.length_map, List.take_length] at hm3
      rw [hm3, et]
  · rintro E M' ⟨hb, hmi, y6, y7, y8, rfl⟩
    unfold rowsD at hmi
    rw [List.length_map, List.take_length] at hmi
    exact k M' _ _ _ hb hmi
def sp_lsteps : DSp := fun ds M Q _ => ∃ (a aw ad : Addr) (b : BK), ds = [.ref a] ∧ DaB M a aw ad b ∧ b.Ok ∧ RetL M Q (stepsD b.steps)
theorem map_tup {α : Type} (l : List α) (f : α → List Nat) (i : Nat) {x : α} (h : l[i]? = some x) : rowsD ((l.take (i + 1)).map f) = rowsD ((l.take i).map f) ++ [.tup (wds (f x))] := by
  rw [take_snoc h, List.map_append, rowsD_app]; rfl
/-- the end of the turn: the words, then the loops -/
def b_lsteps_words (s__law_names : DSp) : DS := dSeq (dAsg (dLst (dCons (dC .non) (dNil))) (.nm 8)) (dSeq (dIf (dtB (dOp (oIn false) (dC (.str "k")) (dCall s__law_names (dCons (dVar 4) (dNil))))) (dAsg (dOp oIx (dVar 0) (dC (.int 2))) (.nm 8)) (dNext)) b_lsteps_rows)
theorem r_lsteps_words {a aw ad p pr : Addr} {b : BK} {d : Str × Nat × D} {M2 : Mm} {A : List ST} {D' : DEnds} {x6 x7 x8 x9 x10 x11 : Option D} (ok : b.Ok) (fo : FmOk d.2.2) (da : DaB M2 a aw ad b) (hap : a ≠ p) (haw : aw ≠ p) (had : ad ≠ p) (hpr1 : pr ≠ p) (hA : A.length ≤ 40000) (hm2 : M2 p = some (.lst (stepsD A)))
    (hpr : M2 pr = some (.lst (rowsD (srcRows b.r (srcN d.2.2)))))
    (k : ∀ M' (x8 x9 x10 x11 : Option D), But p M2 M' → M' p = some (.lst (stepsD (A ++ deedSteps b d))) → D'.nx [some (.ref a), some (.ref p), some (.str d.1), some (.int (d.2.1 : Nat)), some d.2.2, some (.ref pr), x6, x7, x8, x9, x10, x11] M') :
    b_lsteps_words (sp_lnames2 8) D' [some (.ref a), some (.ref p), some (.str d.1), some (.int (d.2.1 : Nat)), some d.2.2, some (.ref pr), x6, x7, x8, x9, x10, x11] M2 := by
  refine ⟨by show 1 ≤ sizeLine; decide, fun q hq => ?_⟩
  have xq : Ext M2 (updM M2 q (.lst [.non])) := Ext.new hq
  have qm : updM M2 q (.lst [.non]) q = some (.lst [.non]) := updM_same
  have hpq : q ≠ p := Ne.symm (Ext.ne hm2 hq)
  generalize updM M2 q (.lst [.non]) = M3 at xq qm ⊢
  refine ⟨d.2.2, rfl, fo.tr, by have := fo.de; omega, fo.sz, fun pn M4 hpn x4 hnm => ?_⟩
  have x24 := xq.trans x4
  have da4 := da.ext x24
  have ek : decide (("k" : Str) ∈ lnamesD d.2.2) = hasK d.2.2 := by unfold hasK; rw [decide_eq_decide]; exact (mem_lnames _ _).symm
  refine .inl ⟨_, hnm, rfl, flat_strs _, ?_⟩
  rw [inD_strs, ek]
  refine ⟨fun hk => ?_, fun hk => ?_⟩
  · have hk : hasK d.2.2 = true := hk
    refine .inl ⟨_, _, .ref aw, da4.h0, rfl, rfl, ?_⟩
    exact r_lsteps_rows ok da4 hap haw hpr1 hA (x24 _ _ hm2) (by rw [da4.h1, wsD_yes hk]) (x24 _ _ hpr) fun M5 y9 y10 y11 b5 m5 => k M5 _ _ _ _ ((But.ofExt x24).trans b5) m5
  · have hk : hasK d.2.2 = false := hk
    exact r_lsteps_rows ok da4 hap hpq hpr1 hA (x24 _ _ hm2) (by rw [x4 _ _ qm, wsD_no hk]) (x24 _ _ hpr) fun M5 y9 y10 y11 b5 m5 => k M5 _ _ _ _ ((But.ofExt x24).trans b5) m5
theorem srcN_cases (f : D) : srcN f = 0 ∨ srcN f = 1 ∨ srcN f = 2 := by have := srcN_le f; omega
theorem r__law_steps : ∀ ds M Q E, sp_lsteps ds M Q E → b__law_steps sp_lsources (sp_lnames2 8) (En Q) (startD 12 ds) M := by
  rintro ds M Q E ⟨a, aw, ad, b, rfl, da, ok, h⟩
  have r4 := ok.r4
  have r1 := ok.r1
  have d6 := ok.d6
  refine ⟨by show 0 ≤ sizeLine; decide, fun p hp => ?_⟩
  have pm : updM M p (.lst []) p = some (.lst []) := updM_same
  have xp : Ext M (updM M p (.lst [])) := Ext.new hp
  have hap : a ≠ p := Ext.ne da.h0 hp
  have haw : aw ≠ p := Ext.ne da.h1 hp
  have had : ad ≠ p := Ext.ne da.h2 hp
  generalize updM M p (.lst []) = M0 at pm xp ⊢
  have da0 := da.ext xp
  refine .inl ⟨_, _, .ref ad, da0.h0, rfl, rfl, _, da0.h2, ?_⟩
  refine ⟨fun i E M' => But p M0 M' ∧ M' p = some (.lst (stepsD ((b.deeds.take i).flatMap (deedSteps b)))) ∧ ∃ x2 x3 x4 x5 x6 x7 x8 x9 x10 x11 : Option D, E = [some (.ref a), some (.ref p), x2, x3, x4, x5, x6, x7, x8, x9, x10, x11], ⟨But.refl _ _, pm, none, none, none, none, none, none, none, none, none, none, rfl⟩, fun i E M' ⟨b1, _⟩ => b1 _ _ had da0.h2, ?_, ?_⟩
  · rintro i E M' d0 hd ⟨hb, hm, x2, x3, x4, x5, x6, x7, x8, x9, x10, x11, rfl⟩
    rw [List.getElem?_map] at hd
    obtain ⟨d, he, rfl⟩ := Option.map_eq_some_iff.mp hd
    have fo := ok.fmOk (mem_at he)
    have hA : ((b.deeds.take i).flatMap (deedSteps b)).length ≤ 40000 := by
      have := fm_le (l := b.deeds.take i) (f := deedSteps b) fun x _ => deedSteps_len ok x
      rw [List.length_take] at this
      have : min i b.deeds.length * 6400 ≤ 6 * 6400 := Nat.mul_le_mul_right _ (by omega)
      omega
    have da' := da0.but hb hap haw had
    have fin : ∀ (pr : Addr) (M2 : Mm) (x6 x7 : Option D), But p M0 M2 → pr ≠ p → M2 p = some (.lst (stepsD ((b.deeds.take i).flatMap (deedSteps b)))) → M2 pr = some (.lst (rowsD (srcRows b.r (srcN d.2.2)))) → b_lsteps_words (sp_lnames2 8) { nx := fun E M' => But p M0 M' ∧ M' p = some (.lst (stepsD ((b.deeds.take (i + 1)).flatMap (deedSteps b)))) ∧ ∃ x2 x3 x4 x5 x6 x7 x8 x9 x10 x11 : Option D, E = [some (.ref a), some (.ref p), x2, x3, x4, x5, x6, x7, x8, x9, x10, x11], rt := Q, bk := (dRet (dVar 1) (En Q)), ct := fun E M' => But p M0 M' ∧ M' p = some (.lst (stepsD ((b.deeds.take (i + 1)).flatMap (deedSteps b)))) ∧ ∃ x2 x3 x4 x5 x6 x7 x8 x9 x10 x11 : Option D, E = [some (.ref a), some (.ref p), x2, x3, x4, x5, x6, x7, x8, x9, x10, x11] } [some (.ref a), some (.ref p), some (.str d.1), some (.int (d.2.1 : Nat)), some d.2.2, some (.ref pr), x6, x7, x8, x9, x10, x11] M2 := fun pr M2 x6 x7 hb2 hpr1 hm2 hpr =>
      r_lsteps_words ok fo (da0.but hb2 hap haw had) hap haw had hpr1 hA hm2 hpr fun M5 y8 y9 y10 y11 b5 m5 => ⟨hb2.trans b5, by rw [m5, take_flat _ he], _, _, _, _, _, _, _, _, _, _, rfl⟩
    refine ⟨rfl, ?_⟩
    refine ⟨by show 0 ≤ sizeLine; decide, by show 1 ≤ sizeLine; decide, fun q hq => ?_⟩
    have xq : Ext M' (updM M' q (.lst [.tup []])) := Ext.new hq
    have qm : updM M' q (.lst [.tup []]) q = some (.lst [.tup []]) := updM_same
    have hpq : q ≠ p := Ne.symm (Ext.ne hm hq)
    generalize updM M' q (.lst [.tup []]) = M1 at xq qm ⊢
    refine ⟨d.2.2, rfl, fo, fun M2 y2 => ?_⟩
    have x2' := xq.trans y2
    have cast : ∀ j : Nat, decide (((srcN d.2.2 : Nat) : Int) = (j : Int)) = decide (srcN d.2.2 = j) := fun j => by rw [decide_eq_decide]; omega
    have da2 := da'.ext x2'
    rcases srcN_cases d.2.2 with hs | hs | hs
    · rw [hs] at fin ⊢
      walk_at "if"
      refine ⟨d.2.2, rfl, fo, fun M3 y3 => ?_⟩
      rw [hs]
      walk_at "if"
      have x3' := x2'.trans y3
      exact fin q M3 _ _ (hb.trans (.ofExt x3')) hpq (x3' _ _ hm) (by rw [y3 _ _ (y2 _ _ qm)]; rfl)
    · rw [hs] at fin ⊢
      walk_at "if"
      refine .inl ⟨_, _, .int b.r, da2.h0, rfl, rfl, ?_⟩
      refine ⟨by omega, by omega, fun pr hpr => ?_⟩
      refine ⟨fun l acc M3 => Ext M2 M3 ∧ M3 pr = some (.lst acc) ∧ acc = rowsD (((List.range b.r).take l).map fun x => [x]), ⟨Ext.new hpr, updM_same, rfl⟩, fun _ _ _ _ => trivial, ?_, ?_⟩
      · rintro l acc M3 d0 hd ⟨hx3, hm3, rfl⟩
        obtain ⟨hl, rfl⟩ := rng_at hd
        have hl : l < b.r := by have : l < (b.r : Int).toNat := hl; omega
        rw [Int.zero_add]
        refine ⟨fun _ => ⟨by show 1 ≤ sizeLine; decide, hm3, tolist (by unfold rowsD; rw [List.length_map, List.length_map, List.length_take, List.length_range]; omega), hx3.mut hpr, updM_same, ?_⟩, fun hc => absurd hc (by decide)⟩
        rw [map_tup _ _ l (x := l) (by simp [hl])]
        rfl
      rintro acc M3 ⟨hx3, hm3, rfl⟩
      rw [rng_len, show (b.r : Int).toNat = b.r by omega, show (List.range b.r).take b.r = List.range b.r from by rw [List.take_of_length_le (by simp)]] at hm3
      have hprp : pr ≠ p := Ne.symm (Ext.ne (x2' _ _ hm) hpr)
      refine ⟨d.2.2, rfl, fo, fun M4 y4 => ?_⟩
      rw [hs]
      walk_at "if"
      have x4' := (x2'.trans hx3).trans y4
      exact fin pr M4 _ _ (hb.trans (.ofExt x4')) hprp (x4' _ _ hm) (by rw [y4 _ _ hm3, rows_one ⟨b.r, by omega⟩])
    · rw [hs] at fin ⊢
      walk_at "if"
      refine ⟨d.2.2, rfl, fo, fun M3 y3 => ?_⟩
      rw [hs]
      walk_at "if"
      have x3' := x2'.trans y3
      have da3 := da'.ext x3'
      refine .inl ⟨_, _, .int b.r, da3.h0, rfl, rfl, .inl ⟨_, _, .int b.r, da3.h0, rfl, rfl, ?_⟩⟩
      have hrr : b.r * b.r ≤ 16 := by
        have : ∀ r : Fin 5, r.1 * r.1 ≤ 16 := by decide
        exact this ⟨b.r, by omega⟩
      refine ⟨.inl ⟨by omega, by omega⟩, ?_⟩
      refine ⟨by rw [nmul]; omega, by rw [nmul]; omega, fun pr hpr => ?_⟩
      refine ⟨fun l acc M4 => Ext M3 M4 ∧ M4 pr = some (.lst acc) ∧ acc = rowsD (((List.range (b.r * b.r)).take l).map fun k => [k / b.r, k % b.r]), ⟨Ext.new hpr, updM_same, rfl⟩, fun _ _ _ _ => trivial, ?_, ?_⟩
      · rintro l acc M4 d0 hd ⟨hx4, hm4, rfl⟩
        obtain ⟨hl, rfl⟩ := rng_at hd
        have hl : l < b.r * b.r := by rw [nmul] at hl; have : l < ((b.r * b.r : Nat) : Int).toNat := hl; omega
        rw [Int.zero_add]
        refine ⟨fun _ => ?_, fun hc => absurd hc (by decide)⟩
        have da4 := da3.ext hx4
        refine .inl ⟨_, _, .int b.r, da4.h0, rfl, rfl, cdiv r1 (by omega), ?_⟩
        refine .inl ⟨_, _, .int b.r, da4.h0, rfl, rfl, ?_⟩
        refine ⟨by omega, by show 2 ≤ sizeLine; decide, hm4, tolist (by unfold rowsD; rw [List.length_map, List.length_map, List.length_take, List.length_range]; omega), hx4.mut hpr, updM_same, ?_⟩
        rw [map_tup _ _ l (x := l) (by simp [hl])]
        rfl
      rintro acc M4 ⟨hx4, hm4, rfl⟩
      rw [rng_len, nmul, show ((b.r * b.r : Nat) : Int).toNat = b.r * b.r by omega, show (List.range (b.r * b.r)).take (b.r * b.r) = List.range (b.r * b.r) from by rw [List.take_of_length_le (by simp)]] at hm4
      have hprp : pr ≠ p := Ne.symm (Ext.ne (x3' _ _ hm) hpr)
      have x4' := x3'.trans hx4
      exact fin pr M4 _ _ (hb.trans (.ofExt x4')) hprp (x4' _ _ hm) (by rw [hm4, rows_two ⟨b.r, by omega⟩])
  · rintro E M' ⟨hb, hm, x2, x3, x4, x5, x6, x7, x8, x9, x10, x11, rfl⟩
    rw [List.length_map, List.take_length] at hm
    exact h p M' hp (Ext.but xp hb hp) hm
end Rk

set_option Elab.async false
set_option linter.all false
set_option autoImplicit false
set_option maxRecDepth 100000
set_option maxHeartbeats 4000000
/-! readings for k88: one step -/
namespace Rk
open PySem PySem.Spec PyProof.Rows L2 DH Bd Rd
local macro_rules | `(tactic| walk_at "if") => `(tactic| first | (refine ⟨fun _ => ?_, fun hc => absurd hc (by decide)⟩) | (refine ⟨fun hc => absurd hc (by decide), fun _ => ?_⟩))
mutual
theorem wf_lnames {w : Nat} {nms : List Str} : ∀ d : D, wfD w nms d = true → ∀ s ∈ lnamesD d, s ∈ nms
  | .int i, _, s, h => by simp [lnamesD] at h
  | .str z, hd, s, h => by
    simp only [lnamesD, List.mem_singleton] at h
    subst h
    simp only [wfD] at hd
    exact of_decide_eq_true hd
  | .tup ds, hd, s, h => by
    obtain ⟨o, t, rfl, hl, ht, _⟩ := op_inv hd
    have h2 : wfDs w nms t = true := by
      simp only [wfD, opOf_of] at hd
      exact (Bool.and_eq_true_iff.mp hd).2
    simp only [lnamesD] at h
    exact wf_lnamess t h2 s h
  | .non, hd, _, _ => by simp [wfD] at hd
  | .bl _, hd, _, _ => by simp [wfD] at hd
  | .ref _, hd, _, _ => by simp [wfD] at hd
  | .ty _, hd, _, _ => by simp [wfD] at hd
  | .kd _, hd, _, _ => by simp [wfD] at hd
  | .fl _, hd, _, _ => by simp [wfD] at hd
theorem wf_lnamess {w : Nat} {nms : List Str} : ∀ t : List D, wfDs w nms t = true → ∀ s ∈ lnamesDs t, s ∈ nms
  | [], _, s, h => by simp [lnamesDs] at h
  | d :: t, hd, s, h => by
    simp only [wfDs, Bool.and_eq_true] at hd
    simp only [lnamesDs, List.mem_append] at h
    rcases h with h | h
    · exact wf_lnames d hd.1 s h
    · exact wf_lnamess t hd.2 s h
end
/-! ### what a step computes -/
def rhoOf (s : ST) (st : List Nat) (n : Str) : Nat := if n = "k" then (s.wd.getD 0).toNat else if n = "a" then st.getD (s.src.getD 0 0).toNat 0 else if n = "b" then st.getD (s.src.getD 1 0).toNat 0 else 0
def stepWord (b : BK) (s : ST) (st : List Nat) : Nat := match b.find s.nm with
  | some d => evD b.w (rhoOf s st) d.2.2
  | none => 0
def stepAfter (b : BK) (s : ST) (st : List Nat) : List Nat := st.set s.tg.toNat (stepWord b s st)
structure StOk (b : BK) (st : List Nat) : Prop where
  len : st.length = b.r
  lt : ∀ x ∈ st, x < 2 ^ b.w
/-- what a step of the book is -/
structure StepF (b : BK) (s : ST) (d : Str × Nat × D) : Prop where
  find : b.find s.nm = some d
  mem : d ∈ b.deeds
  sl : s.src.length = srcN d.2.2
  t0 : 0 ≤ s.tg
  tr : s.tg < b.r
  hk : hasK d.2.2 = s.wd.isSome
  wd : ∀ v, s.wd = some v → v ∈ b.words.map Int.ofNat
  src : ∀ x ∈ s.src, 0 ≤ x ∧ x < b.r
theorem step_inv {b : BK} {s : ST} (h : isStep b s = true) : ∃ d, StepF b s d := by
  unfold isStep at h
  cases hf : b.find s.nm with
  | none => rw [hf] at h; cases h
  | some d =>
    rw [hf] at h
    have h : stepOk b s d.2.2 = true := h
    unfold stepOk at h
    simp only [Bool.and_eq_true, decide_eq_true_eq, List.all_eq_true, beq_iff_eq] at h
    obtain ⟨⟨⟨h1, h2, h3⟩, h4, h5⟩, h6⟩ := h
    refine ⟨d, hf, List.mem_of_find?_eq_some hf, h1, h2, h3, h4, fun v hv => ?_, fun x hx => ?_⟩
    · rw [hv] at h5; exact of_decide_eq_true h5
    · have := h6 x hx
      unfold srcOk at this
      simpa using this
theorem stepWord_lt {b : BK} (ok : b.Ok) {s : ST} {st : List Nat} (so : StOk b st) (h : isStep b s = true) : stepWord b s st < 2 ^ b.w := by
  obtain ⟨d, f⟩ := step_inv h
  unfold stepWord
  rw [f.find]
  show evD b.w (rhoOf s st) d.2.2 < 2 ^ b.w
  have hp : 0 < 2 ^ b.w := Nat.two_pow_pos _
  have gd : ∀ i : Nat, st.getD i 0 < 2 ^ b.w := fun i => by
    rw [List.getD_eq_getElem?_getD]
    cases e : st[i]? with
    | none => exact hp
    | some x => exact so.lt x (mem_at e)
  refine ev_lt ok.w1 (nms := abk) (fun n _ => ?_) _ (ok.fm d f.mem).1
  unfold rhoOf
  split
  · cases hw : s.wd with
    | none => exact hp
    | some v =>
      obtain ⟨x, hx, rfl⟩ := List.mem_map.mp (f.wd v hw)
      exact ok.wlt x hx
  · split
    · exact gd _
    · split
      · exact gd _
      · exact hp
theorem after_ok {b : BK} (ok : b.Ok) {s : ST} {st : List Nat} (so : StOk b st) (h : isStep b s = true) : StOk b (stepAfter b s st) := by
  refine ⟨by unfold stepAfter; rw [List.length_set]; exact so.len, fun x hx => ?_⟩
  rcases List.mem_or_eq_of_mem_set hx with hx | rfl
  · exact so.lt x hx
  · exact stepWord_lt ok so h
/-! ### the dict of a step -/
def ltr (i : Nat) : Str := if i = 0 then "a" else "b"
/-- the dict after i letters -/
structure EnvS (M : Mm) (e : Addr) (s : ST) (st : List Nat) (i : Nat) : Prop where
  ex : ∃ kvs, M e = some (.dk kvs) ∧ kvs.length ≤ 1 + i ∧ valD kvs (.inr "k") = some (wdD s.wd) ∧ ∀ j < i, valD kvs (.inr (ltr j)) = some (.int (st.getD (s.src.getD j 0).toNat 0 : Nat))
theorem ltr_ne (i j : Nat) (hi : i < 2) (hj : j < 2) (h : i ≠ j) : ltr i ≠ ltr j := by
  match i, j with
  | 0, 1 => decide
  | 1, 0 => decide
  | 0, 0 => exact absurd rfl h
  | 1, 1 => exact absurd rfl h
theorem ltr_k (i : Nat) : ltr i ≠ ("k" : Str) := by unfold ltr; split <;> decide
theorem EnvS.put {M M' : Mm} {e : Addr} {s : ST} {st : List Nat} {i : Nat} (h : EnvS M e s st i) (hi : i < 2) {kvs : List (Key × D)} (hm : M e = some (.dk kvs)) (hm2 : M' e = some (.dk (putD kvs (.inr (ltr i)) (.int (st.getD (s.src.getD i 0).toNat 0 : Nat))))) : EnvS M' e s st (i + 1) := by
  obtain ⟨kvs', h1, h2, h3, h4⟩ := h.ex
  rw [hm] at h1
  cases h1
  refine ⟨_, hm2, by have := putD_len kvs (.inr (ltr i)) (.int (st.getD (s.src.getD i 0).toNat 0 : Nat)); omega, ?_, fun j hj => ?_⟩
  · rw [putD_val, if_neg (fun z => ltr_k i (Sum.inr.inj z).symm)]; exact h3
  · rw [putD_val]
    by_cases hji : j = i
    · subst hji; rw [if_pos rfl]
    · rw [if_neg (fun z => ltr_ne j i (by omega) hi hji (Sum.inr.inj z))]
      exact h4 j (by omega)
theorem EnvS.env {M : Mm} {e : Addr} {b : BK} {s : ST} {st : List Nat} {d : Str × Nat × D} (ok : b.Ok) (so : StOk b st) (f : StepF b s d) (h : EnvS M e s st s.src.length) : EnvM M e b.w (rhoOf s st) (lnamesD d.2.2) := by
  obtain ⟨kvs, h1, _, h3, h4⟩ := h.ex
  refine ⟨kvs, h1, fun n hn => ?_⟩
  have hp : 0 < 2 ^ b.w := Nat.two_pow_pos _
  have gd : ∀ i : Nat, st.getD i 0 < 2 ^ b.w := fun i => by
    rw [List.getD_eq_getElem?_getD]
    cases e : st[i]? with
    | none => exact hp
    | some x => exact so.lt x (mem_at e)
  have hab := wf_lnames _ (ok.fm d f.mem).1 n hn
  have hsl := f.sl
  unfold srcN at hsl
  unfold abk at hab
  simp only [List.mem_cons, List.not_mem_nil, or_false] at hab
  rcases hab with rfl | rfl | rfl
  · have ha : hasA d.2.2 = true := decide_eq_true ((mem_lnames _ _).mpr hn)
    rw [ha] at hsl
    have := h4 0 (by simp at hsl; omega)
    exact ⟨this, gd _⟩
  · have hb : hasB d.2.2 = true := decide_eq_true ((mem_lnames _ _).mpr hn)
    have ha := ok.ba d f.mem hb
    rw [ha, hb] at hsl
    have := h4 1 (by simp at hsl; omega)
    exact ⟨this, gd _⟩
  · have hk : hasK d.2.2 = true := decide_eq_true ((mem_lnames _ _).mpr hn)
    rw [f.hk] at hk
    cases hw : s.wd with
    | none => rw [hw] at hk; cases hk
    | some v =>
      obtain ⟨x, hx, rfl⟩ := List.mem_map.mp (f.wd v hw)
      rw [hw] at h3
      have er : rhoOf s st "k" = x := by unfold rhoOf; rw [if_pos rfl, hw]; rfl
      rw [er]
      exact ⟨h3, ok.wlt x hx⟩
theorem wf_self {b : BK} (ok : b.Ok) {d : Str × Nat × D} (h : d ∈ b.deeds) : wfD b.w (lnamesD d.2.2) d.2.2 = true := wf_own _ (ok.fm d h).1 fun _ hs => hs
/-! ### the package's word of a step -/
def sp_step_word (cl : CF) (CB : Addr) : DSp := fun ds M Q _ => ∃ (a : Addr) (b : BK) (s : ST) (st : List Nat), ds = [.ref a, stD s, .tup (wds st)] ∧ BkM cl CB M a b ∧ b.Ok ∧ StOk b st ∧ isStep b s = true ∧ RetV M Q (.int (stepWord b s st : Nat))
theorem src_at {s : ST} {i : Nat} {x : Int} (h : s.src[i]? = some x) : s.src.getD i 0 = x := by rw [List.getD_eq_getElem?_getD, h]; rfl
theorem st_at {b : BK} {st : List Nat} (so : StOk b st) {x : Int} (h : 0 ≤ x ∧ x < b.r) : atI (wds st) x = some (.int (st.getD x.toNat 0 : Nat)) := by
  obtain ⟨n, rfl⟩ := Int.eq_ofNat_of_zero_le h.1
  have hn : n < st.length := by rw [so.len]; omega
  exact atI_nat (wds_at (getD_at hn))
theorem r_step_word (cl : CF) (CB : Addr) : ∀ ds M Q E, sp_step_word cl CB ds M Q E → b_step_word cl CB (sp_deed cl CB) (sp_value 8) (En Q) (startD 10 ds) M := by
  rintro ds M Q E ⟨a, b, s, st, rfl, bm, ok, so, hs, h⟩
  obtain ⟨d, f⟩ := step_inv hs
  have hsl := f.sl
  have hn2 := srcN_le d.2.2
  refine ⟨rfl, ?_⟩
  refine fun e he => ⟨updM_same, [(.inr "k", wdD s.wd)], rfl, by show 1 ≤ 15; decide, ?_⟩
  have xe : Ext M (updM (updM M e (.dk [])) e (.dk (mergeD [] [(.inr "k", wdD s.wd)]))) := (Ext.new he).mut he
  have em : EnvS (updM (updM M e (.dk [])) e (.dk (mergeD [] [(.inr "k", wdD s.wd)]))) e s st 0 := ⟨_, updM_same, by show 1 ≤ 1; decide, rfl, fun j hj => absurd hj (by omega)⟩
  generalize updM (updM M e (.dk [])) e (.dk (mergeD [] [(.inr "k", wdD s.wd)])) = M1 at xe em ⊢
  refine ⟨by decide +kernel, ?_⟩
  have hlen : (zipD (strD "ab") (s.src.map D.int)).length = s.src.length := by
    rw [zip_len, List.length_map]
    show min 2 s.src.length = _
    omega
  refine ⟨fun i E M' => Ext M M' ∧ EnvS M' e s st i ∧ ∃ x8 x9 : Option D, E = [some (.ref a), some (stD s), some (.tup (wds st)), some (.str s.nm), some (.tup (s.src.map .int)), some (wdD s.wd), some (.int s.tg), some (.ref e), x8, x9], ⟨xe, em, none, none, rfl⟩, fun _ _ _ _ => trivial, ?_, ?_⟩
  · rintro i E M' dd hd ⟨hx, em, x8, x9, rfl⟩
    obtain ⟨u, v, h1, h2, rfl⟩ := zip_at hd
    have hi2 : i < 2 := lt_at h1
    have eu : u = .str (ltr i) := by
      match i, hi2 with
      | 0, _ => exact (Option.some.inj h1).symm
      | 1, _ => exact (Option.some.inj h1).symm
    subst eu
    rw [List.getElem?_map] at h2
    obtain ⟨x, hxs, rfl⟩ := Option.map_eq_some_iff.mp h2
    have hx0 := f.src x (mem_at hxs)
    refine ⟨rfl, ?_⟩
    refine ⟨_, st_at so hx0, ?_⟩
    obtain ⟨kvs, k1, k2, k3, k4⟩ := em.ex
    refine .inr ⟨kvs, .inr (ltr i), k1, rfl, tolist (by omega), hx.mut he, ?_, _, _, rfl⟩
    refine em.put hi2 k1 ?_
    rw [updM_same, src_at hxs]
  · rintro E M' ⟨hx, em, x8, x9, rfl⟩
    rw [hlen] at em
    have bm2 := bm.ext hx
    refine ⟨a, _, rfl, bm2.at_, rfl, ?_⟩
    refine ⟨a, b, s.nm, d, rfl, bm2, f.find, _, (rfl : atI _ 2 = some d.2.2), ?_⟩
    refine ⟨_, _, _, _, rfl, bm2.at_, bm2.cl _ (by simp), rfl, ?_⟩
    have fo := ok.fm d f.mem
    refine ⟨d.2.2, b.w, e, rhoOf s st, lnamesD d.2.2, rfl, ok.w1, ok.w4, wf_self ok f.mem, by omega, em.env ok so f, fun M2 x2 => ?_⟩
    have := h M2 (hx.trans x2)
    unfold stepWord at this
    rw [f.find] at this
    exact this
/-! ### one step -/
theorem cut_set {st : List Nat} {t : Int} {v : Nat} (h0 : 0 ≤ t) (ht : t < st.length) : cutL D (wds st) none (some t) ++ [.int (v : Nat)] ++ cutL D (wds st) (some (t + 1)) none = wds (st.set t.toNat v) := by
  obtain ⟨n, rfl⟩ := Int.eq_ofNat_of_zero_le h0
  have hn : n < st.length := by omega
  have hw := wds_len st
  have c1 : cutL D (wds st) none (some ((n : Nat) : Int)) = (wds st).take n := cutTo D _ n (by rw [hw]; omega)
  have c2 : cutL D (wds st) (some ((n : Nat) + 1 : Int)) none = (wds st).drop (n + 1) := by
    unfold cutL
    have e1 : HT.sIx (wds st).length 0 (some ((n : Nat) + 1 : Int)) = n + 1 := by
      show (if ((n : Nat) + 1 : Int) < 0 then (((n : Nat) + 1 : Int) + ((wds st).length : Int)).toNat else min ((n : Nat) + 1 : Int).toNat (wds st).length) = n + 1
      rw [if_neg (by omega), hw]; omega
    have e2 : HT.sIx (wds st).length (wds st).length none = (wds st).length := rfl
    rw [e1, e2]
    exact List.take_of_length_le (by rw [List.length_drop]; exact Nat.le_refl _)
  rw [c1, c2, show ((n : Nat) : Int).toNat = n by omega]
  unfold wds
  rw [List.set_eq_take_append_cons_drop, if_pos hn, List.map_append, List.map_cons, List.map_take, List.map_drop, List.append_assoc]
  rfl
def sp_step_state (cl : CF) (CB : Addr) : DSp := fun ds M Q _ => ∃ (a : Addr) (b : BK) (s : ST) (st : List Nat), ds = [.ref a, stD s, .tup (wds st)] ∧ BkM cl CB M a b ∧ b.Ok ∧ StOk b st ∧ isStep b s = true ∧ RetV M Q (.tup (wds (stepAfter b s st)))
theorem cut_len (st : List Nat) (lo hi : Option Int) : (cutL D (wds st) lo hi).length ≤ st.length := by
  unfold cutL
  rw [List.length_take, List.length_drop, wds_len]; omega
theorem r_step_state (cl : CF) (CB : Addr) : ∀ ds M Q E, sp_step_state cl CB ds M Q E → b_step_state (sp_step_word cl CB) (En Q) (startD 4 ds) M := by
  rintro ds M Q E ⟨a, b, s, st, rfl, bm, ok, so, hs, h⟩
  obtain ⟨d, f⟩ := step_inv hs
  have r4 := ok.r4
  have sl := so.len
  refine ⟨_, (rfl : atI _ 3 = some (.int s.tg)), ?_⟩
  refine ⟨a, b, s, st, rfl, bm, ok, so, hs, fun M1 x1 => ?_⟩
  have l1 := cut_len st none (some s.tg)
  have l2 := cut_len st (some (s.tg + 1)) none
  refine ⟨by show 1 ≤ sizeLine; decide, Nat.le_of_lt (tolist (by show (cutL D (wds st) none (some s.tg)).length + 1 ≤ _; omega)), ?_⟩
  refine ⟨Nat.le_of_lt (tolist (by rw [List.length_append]; show (cutL D (wds st) none (some s.tg)).length + 1 + (cutL D (wds st) (some (s.tg + 1)) none).length ≤ _; omega)), ?_⟩
  have := h M1 x1
  unfold stepAfter at this
  rw [← cut_set f.t0 (by have := f.tr; omega)] at this
  exact this
/-! ### the law's step -/
def sp_lafter : DSp := fun ds M Q _ => ∃ (a aw ad : Addr) (b : BK) (s : ST) (st : List Nat), ds = [.ref a, stD s, .tup (wds st)] ∧ DaB M a aw ad b ∧ b.Ok ∧ StOk b st ∧ isStep b s = true ∧ RetV M Q (.tup (wds (stepAfter b s st)))
theorem r__law_after : ∀ ds M Q E, sp_lafter ds M Q E → b__law_after (sp_lvalue 8) sp_ldeed (En Q) (startD 6 ds) M := by
  rintro ds M Q E ⟨a, aw, ad, b, s, st, rfl, da, ok, so, hs, h⟩
  obtain ⟨d, f⟩ := step_inv hs
  have hsl := f.sl
  have hn2 := srcN_le d.2.2
  have r4 := ok.r4
  have sl := so.len
  refine fun e he => ⟨_, (rfl : atI _ 2 = some (wdD s.wd)), updM_same, [(.inr "k", wdD s.wd)], rfl, by show 1 ≤ 15; decide, ?_⟩
  have xe : Ext M (updM (updM M e (.dk [])) e (.dk (mergeD [] [(.inr "k", wdD s.wd)]))) := (Ext.new he).mut he
  have em : EnvS (updM (updM M e (.dk [])) e (.dk (mergeD [] [(.inr "k", wdD s.wd)]))) e s st 0 := ⟨_, updM_same, by show 1 ≤ 1; decide, rfl, fun j hj => absurd hj (by omega)⟩
  generalize updM (updM M e (.dk [])) e (.dk (mergeD [] [(.inr "k", wdD s.wd)])) = M1 at xe em ⊢
  refine ⟨_, (rfl : atI _ 1 = some (.tup (s.src.map .int))), ?_⟩
  have hln : ((s.src.map D.int).length : Int) = (s.src.length : Int) := by rw [List.length_map]
  refine ⟨by rw [hln]; omega, by rw [hln]; omega, ?_⟩
  refine ⟨fun i E M' => Ext M M' ∧ EnvS M' e s st i ∧ ∃ x4 : Option D, E = [some (.ref a), some (stD s), some (.tup (wds st)), some (.ref e), x4, none], ⟨xe, em, none, rfl⟩, fun _ _ _ _ => trivial, ?_, ?_⟩
  · rintro i E M' dd hd ⟨hx, em, x4, rfl⟩
    obtain ⟨hi, rfl⟩ := rng_at hd
    have hi : i < s.src.length := by rw [hln] at hi; have : i < (s.src.length : Int).toNat := hi; omega
    rw [Int.zero_add]
    have hxs := getE hi
    have hx0 := f.src _ (List.getElem_mem hi)
    have hat : (s.src.map D.int)[i]? = some (.int s.src[i]) := by rw [List.getElem?_map, hxs]; rfl
    refine ⟨.tup (s.src.map .int), rfl, .int s.src[i], atI_nat hat, _, st_at so hx0, ?_⟩
    have hi2 : i < 2 := by omega
    obtain ⟨kvs, k1, k2, k3, k4⟩ := em.ex
    refine ⟨by decide, (ltr i).cps.toList.getD 0 0, ?_, .inr ⟨kvs, .inr (ltr i), k1, ?_, tolist (by omega), hx.mut he, ?_, _, rfl⟩⟩
    · match i, hi2 with
      | 0, _ => rfl
      | 1, _ => rfl
    · match i, hi2 with
      | 0, _ => rfl
      | 1, _ => rfl
    · refine em.put hi2 k1 ?_
      rw [updM_same, src_at hxs]
  · rintro E M' ⟨hx, em, x4, rfl⟩
    rw [rng_len, hln, show ((s.src.length : Nat) : Int).toNat = s.src.length by omega] at em
    have da2 := da.ext hx
    refine ⟨_, at0, a, aw, ad, b, s.nm, d, rfl, da2, f.find, _, (rfl : atI _ 2 = some d.2.2), ?_⟩
    refine .inl ⟨_, _, .int b.w, da2.h0, rfl, at0, ?_⟩
    have fo := ok.fm d f.mem
    refine ⟨d.2.2, b.w, e, rhoOf s st, lnamesD d.2.2, rfl, ok.w1, ok.w4, wf_self ok f.mem, by omega, em.env ok so f, fun M2 x2 => ?_⟩
    have l1 := cut_len st none (some s.tg)
    have l2 := cut_len st (some (s.tg + 1)) none
    refine ⟨_, (rfl : atI _ 3 = some (.int s.tg)), ?_⟩
    refine ⟨by show 1 ≤ sizeLine; decide, Nat.le_of_lt (tolist (by show (cutL D (wds st) none (some s.tg)).length + 1 ≤ _; omega)), ?_⟩
    refine ⟨_, (rfl : atI _ 3 = some (.int s.tg)), ?_⟩
    refine ⟨Nat.le_of_lt (tolist (by rw [List.length_append]; show (cutL D (wds st) none (some s.tg)).length + 1 + (cutL D (wds st) (some (s.tg + 1)) none).length ≤ _; omega)), ?_⟩
    have := h M2 (hx.trans x2)
    unfold stepAfter at this
    rw [← cut_set f.t0 (by have := f.tr; omega)] at this
    unfold stepWord at this
    rw [f.find] at this
    exact this
end Rk

set_option Elab.async false
set_option linter.all false
set_option autoImplicit false
set_option maxRecDepth 100000
set_option maxHeartbeats 4000000
/-! readings for k88: codes are checked, run, counted -/
namespace Rk
open PySem PySem.Spec PyProof.Rows L2 DH Bd Rd
local macro_rules | `(tactic| walk_at "if") => `(tactic| first | (refine ⟨fun _ => ?_, fun hc => absurd hc (by decide)⟩) | (refine ⟨fun hc => absurd hc (by decide), fun _ => ?_⟩))
def firstBadF (b : BK) : Nat → List ST → Option Nat
  | _, [] => none
  | i, s :: r => if 200 ≤ i ∨ isStep b s = false then some i else firstBadF b (i + 1) r
def firstBad (b : BK) (code : List ST) : Option Nat := firstBadF b 0 code
theorem fb_hit {b : BK} {s : ST} : ∀ {code : List ST} {i k : Nat}, code[i]? = some s → (200 ≤ k + i ∨ isStep b s = false) → firstBadF b k (code.take i) = none → firstBadF b k code = some (k + i)
  | [], i, k, h, _, _ => by simp at h
  | x :: r, 0, k, h, hb, _ => by
    simp at h
    subst h
    simp only [firstBadF]
    have hb : 200 ≤ k ∨ isStep b x = false := hb
    rw [if_pos hb]; rfl
  | x :: r, i + 1, k, h, hb, hn => by
    simp only [List.take_succ_cons, firstBadF] at hn ⊢
    by_cases hx : 200 ≤ k ∨ isStep b x = false
    · rw [if_pos hx] at hn; cases hn
    · rw [if_neg hx] at hn ⊢
      have := fb_hit (k := k + 1) (i := i) (by simpa using h) (by rw [show k + 1 + i = k + (i + 1) by omega]; exact hb) hn
      rw [this]; congr 1; omega
theorem fb_skip {b : BK} {s : ST} : ∀ {code : List ST} {i k : Nat}, code[i]? = some s → ¬ (200 ≤ k + i ∨ isStep b s = false) → firstBadF b k (code.take i) = none → firstBadF b k (code.take (i + 1)) = none
  | [], i, k, h, _, _ => by simp at h
  | x :: r, 0, k, h, hb, _ => by
    simp at h
    subst h
    simp only [List.take_succ_cons, List.take_zero, firstBadF]
    have hb : ¬ (200 ≤ k ∨ isStep b x = false) := hb
    rw [if_neg hb]
  | x :: r, i + 1, k, h, hb, hn => by
    rw [List.take_succ_cons] at hn ⊢
    simp only [firstBadF] at hn ⊢
    by_cases hx : 200 ≤ k ∨ isStep b x = false
    · rw [if_pos hx] at hn; cases hn
    · rw [if_neg hx] at hn ⊢
      exact fb_skip (k := k + 1) (i := i) (by simpa using h) (by rw [show k + 1 + i = k + (i + 1) by omega]; exact hb) hn
theorem fb_none {b : BK} : ∀ {code : List ST} {k : Nat}, firstBadF b k code = none → ∀ s ∈ code, isStep b s = true
  | [], _, _, s, h => by cases h
  | x :: r, k, hn, s, h => by
    simp only [firstBadF] at hn
    by_cases hx : 200 ≤ k ∨ isStep b x = false
    · rw [if_pos hx] at hn; cases hn
    · rw [if_neg hx] at hn
      rcases List.mem_cons.mp h with rfl | h
      · cases q : isStep b s with
        | true => rfl
        | false => exact absurd (.inr q) hx
      · exact fb_none hn s h
theorem stepsD_at {l : List ST} {i : Nat} {s : ST} (h : l[i]? = some s) : (stepsD l)[i]? = some (stD s) := by unfold stepsD; rw [List.getElem?_map, h]; rfl
theorem stepsD_get {l : List ST} {i : Nat} {d : D} (h : (stepsD l)[i]? = some d) : ∃ s, l[i]? = some s ∧ d = stD s := by
  unfold stepsD at h
  rw [List.getElem?_map] at h
  obtain ⟨s, h1, h2⟩ := Option.map_eq_some_iff.mp h
  exact ⟨s, h1, h2.symm⟩
theorem stepsD_len (l : List ST) : (stepsD l).length = l.length := List.length_map ..
/-- a code: its items are like steps -/
structure CodeOk (code : List ST) : Prop where
  len : code.length ≤ 1000
  src : ∀ s ∈ code, s.src.length ≤ 1000
/-! ### check_code -/
def bodyC (CB : Addr) (s1 : DSp) (R : DS) : DS := dIf (dtOr (dtB (dOp oGe (dVar 2) (dC (.int 200)))) (dtNot (dtE (dMeth CB "is_step" s1 (dVar 0) (dCons (dOp oIx (dVar 1) (dVar 2)) (dNil)))))) R (dNext)
theorem r_check_gen {cl : CF} {CB a : Addr} {b : BK} {cd : D} {code : List ST} {M : Mm} (R : DS) (D0 : DEnds) (bm : BkM cl CB M a b) (ok : b.Ok) (hs : SeqM M cd (stepsD code)) (co : CodeOk code)
    (hR : ∀ i, firstBad b code = some i → i ≤ 1000 → ∀ M2 D', Ext M M2 → D'.xc = D0.xc → R D' [some (.ref a), some cd, some (.int (i : Nat))] M2) (h1 : firstBad b code = none → ∀ M' x, Ext M M' → D0.nx [some (.ref a), some cd, x] M') :
    (dFor (dRng1 (dCons (dL oLen (dCons (dVar 1) (dNil))) (dNil))) (.nm 2) (bodyC CB (sp_is_step cl CB) R) : DS) D0 [some (.ref a), some cd, none] M := by
  have cl1 := co.len
  have body : ∀ i M', i < code.length → Ext M M' → firstBadF b 0 (code.take i) = none → SeqM M' cd (stepsD code) → ∀ D', D'.xc = D0.xc → (∀ E M', Ext M M' ∧ firstBadF b 0 (code.take (i + 1)) = none ∧ (∃ x : Option D, E = [some (.ref a), some cd, x]) → D'.nx E M') →
      bodyC CB (sp_is_step cl CB) R D' [some (.ref a), some cd, some (.int (i : Nat))] M' := by
    intro i M' hi hx hn hsm D' hxc hnx
    have hat := getE hi
    have hsrc := co.src _ (List.getElem_mem hi)
    generalize code[i] = s at hat hsrc
    have bad : ∀ M2, Ext M M2 → (200 ≤ i ∨ isStep b s = false) → R D' [some (.ref a), some cd, some (.int (i : Nat))] M2 := fun M2 x2 hb => by
      have := fb_hit (k := 0) hat (by rw [Nat.zero_add]; exact hb) hn
      rw [Nat.zero_add] at this
      exact hR i this (by omega) M2 D' x2 hxc
    refine ⟨fun hc => ?_, fun hc => ?_⟩
    · have hc : decide ((200 : Int) ≤ (i : Int)) = true := hc
      walk_at "if"
      exact bad M' hx (.inl (by have := of_decide_eq_true hc; omega))
    have hc : decide ((200 : Int) ≤ (i : Int)) = false := hc
    have h200 : ¬ 200 ≤ i := by have := of_decide_eq_false hc; omega
    have bm' := bm.ext hx
    refine ⟨a, _, rfl, bm'.at_, rfl, ?_⟩
    have cont : ∀ d, d = stD s → sp_is_step cl CB [.ref a, d] M' (fun d M1 => truM d M1 fun b_1 => ((!b_1) = true → R D' [some (.ref a), some cd, some (.int (i : Nat))] M1) ∧ ((!b_1) = false → D'.nx [some (.ref a), some cd, some (.int (i : Nat))] M1)) EX0 := by
      rintro d rfl
      refine ⟨a, b, s, rfl, bm', ok, hsrc, fun M2 x2 => ⟨fun hb => ?_, fun hb => ?_⟩⟩
      · have hb : isStep b s = false := (Bool.not_eq_true' _).mp hb
        exact bad M2 (hx.trans x2) (.inr hb)
      · have hb : isStep b s = true := by simpa using hb
        exact hnx _ _ ⟨hx.trans x2, fb_skip (k := 0) hat (by rw [Nat.zero_add, hb]; rintro (z | z); exact h200 z; cases z) hn, _, rfl⟩
    rcases hsm with rfl | ⟨q, rfl, hq⟩
    · exact ⟨_, atI_nat (stepsD_at hat), cont _ rfl⟩
    · exact .inl ⟨_, _, _, hq, rfl, atI_nat (stepsD_at hat), cont _ rfl⟩
  have go : dRng1 (dCons (dC (.int ((stepsD code).length : Nat))) dNil) [some (.ref a), some cd, none] M (fun ds stay M1 => ∃ I : Nat → DEnv → Mm → Prop, I 0 [some (.ref a), some cd, none] M1 ∧ (∀ i E M, I i E M → stay M) ∧
      (∀ i E0 M0 d, ds[i]? = some d → I i E0 M0 → dTg (.nm 2) d E0 fun E2 => bodyC CB (sp_is_step cl CB) R { nx := I (i + 1), rt := D0.rt, bk := D0.nx, ct := I (i + 1), xc := D0.xc } E2 M0) ∧ ∀ E0 M0, I ds.length E0 M0 → D0.nx E0 M0) := by
    rw [stepsD_len]
    refine ⟨by omega, by omega, ?_⟩
    refine ⟨fun i E M' => Ext M M' ∧ firstBadF b 0 (code.take i) = none ∧ ∃ x : Option D, E = [some (.ref a), some cd, x], ⟨Ext.refl _, by simp [firstBadF], none, rfl⟩, fun _ _ _ _ => trivial, ?_, ?_⟩
    · rintro i E' M' d hd ⟨hx, hn, x, rfl⟩
      obtain ⟨hi, rfl⟩ := rng_at hd
      have hi : i < code.length := by have : i < (code.length : Int).toNat := hi; omega
      rw [Int.zero_add]
      exact body i M' hi hx hn (hs.ext hx) _ rfl fun E M' z => z
    · rintro E' M' ⟨hx, hn, x, rfl⟩
      rw [rng_len, show ((code.length : Nat) : Int).toNat = code.length by omega, List.take_length] at hn
      exact h1 hn M' x hx
  rcases hs with rfl | ⟨q, rfl, hq⟩
  · exact go
  · exact .inl ⟨_, hq, go⟩
def sp_check_code_x (cl : CF) (CB cE : Addr) : DSp := fun ds M Q E => ∃ (a : Addr) (b : BK) (cd : D) (code : List ST), ds = [.ref a, cd] ∧ BkM cl CB M a b ∧ b.Ok ∧ SeqM M cd (stepsD code) ∧ CodeOk code ∧
  (firstBad b code = none → RetV M Q .non) ∧ (∀ i, firstBad b code = some i → ∀ e M1, Ext M M1 → M1 e = none → E (.ref cE) (some e) (updM M1 e (.xd [("at", .int (i : Nat))])))
theorem r_check_code_x (cl : CF) (CB c_BadCode : Addr) : ∀ ds M Q E, sp_check_code_x cl CB c_BadCode ds M Q E → b_check_code_x CB c_BadCode (sp_is_step cl CB) (EnX Q E) (startD 3 ds) M := by
  rintro ds M Q E ⟨a, b, cd, code, rfl, bm, ok, hs, co, h1, h2⟩
  refine r_check_gen (dRaise c_BadCode "at" okNatD (dVar 2)) (EnX Q E) bm ok hs co (fun i hi hi2 M2 D' x2 hxc => ⟨⟨i, rfl, hi2⟩, fun e he => ?_⟩) fun hn M' x hx => h1 hn M' hx
  rw [hxc]
  exact h2 i hi e M2 x2 he
def sp_check_code (cl : CF) (CB : Addr) : DSp := fun ds M Q _ => ∃ (a : Addr) (b : BK) (cd : D) (code : List ST), ds = [.ref a, cd] ∧ BkM cl CB M a b ∧ b.Ok ∧ SeqM M cd (stepsD code) ∧ CodeOk code ∧ firstBad b code = none ∧ RetV M Q .non
theorem r_check_code (cl : CF) (CB : Addr) : ∀ ds M Q E, sp_check_code cl CB ds M Q E → b_check_code CB (sp_is_step cl CB) (En Q) (startD 3 ds) M := by
  rintro ds M Q E ⟨a, b, cd, code, rfl, bm, ok, hs, co, hn, h1⟩
  exact r_check_gen dNever (En Q) bm ok hs co (fun i hi => by rw [hn] at hi; cases hi) fun _ M' x hx => h1 M' hx
/-! ### run_code, code_price -/
def runS (b : BK) (code : List ST) (st : List Nat) : List Nat := code.foldl (fun st s => stepAfter b s st) st
theorem runS_snoc (b : BK) (l : List ST) (s : ST) (st : List Nat) : runS b (l ++ [s]) st = stepAfter b s (runS b l st) := by unfold runS; rw [List.foldl_append]; rfl
theorem run_ok {b : BK} (ok : b.Ok) : ∀ {code : List ST} {st : List Nat}, (∀ s ∈ code, isStep b s = true) → StOk b st → StOk b (runS b code st)
  | [], _, _, so => so
  | s :: r, st, h, so => run_ok ok (code := r) (fun x hx => h x (List.mem_cons_of_mem _ hx)) (after_ok ok so (h s (by simp)))
def priceOf (b : BK) (s : ST) : Nat := match b.find s.nm with
  | some d => d.2.1
  | none => 0
def costS (b : BK) (code : List ST) : Nat := (code.map (priceOf b)).sum
/-- the loop of run_code -/
def b_run_loop (s1 : DSp) : DS := dSeq (dFor (dIter (dVar 1)) (.nm 3) (dAsg (dCall s1 (dCons (dVar 0) (dCons (dVar 3) (dCons (dVar 2) (dNil))))) (.nm 2))) (dRet (dVar 2))
theorem r_run_loop {cl : CF} {CB a : Addr} {b : BK} {cd : D} {code : List ST} {st : List Nat} {M : Mm} {D0 : DEnds} (bm : BkM cl CB M a b) (ok : b.Ok) (hs : SeqM M cd (stepsD code)) (hst : ∀ s ∈ code, isStep b s = true) (so : StOk b st)
    (h : ∀ M', Ext M M' → D0.rt (.tup (wds (runS b code st))) M') : b_run_loop (sp_step_state cl CB) D0 [some (.ref a), some cd, some (.tup (wds st)), none] M := by
  have go : ∀ stay : Mm → Prop, (∀ M', Ext M M' → stay M') → ∃ I : Nat → DEnv → Mm → Prop, I 0 [some (.ref a), some cd, some (.tup (wds st)), none] M ∧ (∀ i E M, I i E M → stay M) ∧
      (∀ i E0 M0 d, (stepsD code)[i]? = some d → I i E0 M0 → dTg (.nm 3) d E0 fun E2 => (dAsg (dCall (sp_step_state cl CB) (dCons (dVar 0) (dCons (dVar 3) (dCons (dVar 2) (dNil))))) (.nm 2) : DS) { nx := I (i + 1), rt := D0.rt, bk := dRet (dVar 2) D0, ct := I (i + 1), xc := D0.xc } E2 M0) ∧ ∀ E0 M0, I (stepsD code).length E0 M0 → dRet (dVar 2) D0 E0 M0 := by
    intro stay hstay
    refine ⟨fun i E M' => Ext M M' ∧ ∃ x : Option D, E = [some (.ref a), some cd, some (.tup (wds (runS b (code.take i) st))), x], ⟨Ext.refl _, none, rfl⟩, fun i E M' ⟨hx, _⟩ => hstay M' hx, ?_, ?_⟩
    · rintro i E M' d hd ⟨hx, x, rfl⟩
      obtain ⟨s, hsi, rfl⟩ := stepsD_get hd
      refine ⟨a, b, s, _, rfl, bm.ext hx, ok, run_ok ok (fun y hy => hst y (List.mem_of_mem_take hy)) so, hst s (mem_at hsi), fun M2 x2 => ⟨hx.trans x2, some (stD s), ?_⟩⟩
      rw [take_snoc hsi, runS_snoc]; rfl
    · rintro E M' ⟨hx, x, rfl⟩
      rw [stepsD_len, List.take_length]
      exact h M' hx
  rcases hs with rfl | ⟨q, rfl, hq⟩
  · exact go (fun _ => True) fun _ _ => trivial
  · exact ⟨_, hq, go (fun M => IsL M q (stepsD code)) fun M' hx => hx _ _ hq⟩
def sp_run_code_x (cl : CF) (CB cE : Addr) : DSp := fun ds M Q E => ∃ (a : Addr) (b : BK) (cd : D) (code : List ST) (st : List Nat), ds = [.ref a, cd, .tup (wds st)] ∧ BkM cl CB M a b ∧ b.Ok ∧ SeqM M cd (stepsD code) ∧ CodeOk code ∧ StOk b st ∧
  (firstBad b code = none → RetV M Q (.tup (wds (runS b code st)))) ∧ (∀ i, firstBad b code = some i → ∀ e M1, Ext M M1 → M1 e = none → E (.ref cE) (some e) (updM M1 e (.xd [("at", .int (i : Nat))])))
theorem r_run_code_x (cl : CF) (CB c_BadCode : Addr) : ∀ ds M Q E, sp_run_code_x cl CB c_BadCode ds M Q E → b_run_code_x (sp_check_code_x cl CB c_BadCode) (sp_step_state cl CB) (EnX Q E) (startD 4 ds) M := by
  rintro ds M Q E ⟨a, b, cd, code, st, rfl, bm, ok, hs, co, so, h1, h2⟩
  refine ⟨a, b, cd, code, rfl, bm, ok, hs, co, fun hn M1 x1 => ?_, fun i hi e M1 x1 he => h2 i hi e M1 x1 he⟩
  exact r_run_loop (D0 := EnX Q E) (bm.ext x1) ok (hs.ext x1) (fb_none hn) so fun M' x2 => h1 hn M' (x1.trans x2)
def sp_run_code (cl : CF) (CB : Addr) : DSp := fun ds M Q _ => ∃ (a : Addr) (b : BK) (cd : D) (code : List ST) (st : List Nat), ds = [.ref a, cd, .tup (wds st)] ∧ BkM cl CB M a b ∧ b.Ok ∧ SeqM M cd (stepsD code) ∧ CodeOk code ∧ StOk b st ∧ firstBad b code = none ∧ RetV M Q (.tup (wds (runS b code st)))
theorem r_run_code (cl : CF) (CB : Addr) : ∀ ds M Q E, sp_run_code cl CB ds M Q E → b_run_code (sp_check_code cl CB) (sp_step_state cl CB) (En Q) (startD 4 ds) M := by
  rintro ds M Q E ⟨a, b, cd, code, st, rfl, bm, ok, hs, co, so, hn, h1⟩
  refine ⟨a, b, cd, code, rfl, bm, ok, hs, co, hn, fun M1 x1 => ?_⟩
  exact r_run_loop (D0 := En Q) (bm.ext x1) ok (hs.ext x1) (fb_none hn) so fun M' x2 => h1 M' (x1.trans x2)
def b_price_loop (CB : Addr) (s1 : DSp) : DS := dSeq (dAsg (dC (.int 0)) (.nm 2)) (dSeq (dFor (dIter (dVar 1)) (.nm 3) (dAsg (dOp oAdd (dVar 2) (dOp oIx (dMeth CB "deed" s1 (dVar 0) (dCons (dOp oIx (dVar 3) (dC (.int 0))) (dNil))) (dC (.int 1)))) (.nm 2))) (dRet (dVar 2)))
theorem cost_snoc (b : BK) (l : List ST) (s : ST) : costS b (l ++ [s]) = costS b l + priceOf b s := by unfold costS; rw [List.map_append, List.sum_append]; simp
theorem r_price_loop {cl : CF} {CB a : Addr} {b : BK} {cd : D} {code : List ST} {M : Mm} {D0 : DEnds} (bm : BkM cl CB M a b) (hs : SeqM M cd (stepsD code)) (hst : ∀ s ∈ code, isStep b s = true)
    (h : ∀ M', Ext M M' → D0.rt (.int (costS b code : Nat)) M') : b_price_loop CB (sp_deed cl CB) D0 [some (.ref a), some cd, none, none] M := by
  have go : ∀ stay : Mm → Prop, (∀ M', Ext M M' → stay M') → ∃ I : Nat → DEnv → Mm → Prop, I 0 [some (.ref a), some cd, some (.int 0), none] M ∧ (∀ i E M, I i E M → stay M) ∧
      (∀ i E0 M0 d, (stepsD code)[i]? = some d → I i E0 M0 → dTg (.nm 3) d E0 fun E2 => (dAsg (dOp oAdd (dVar 2) (dOp oIx (dMeth CB "deed" (sp_deed cl CB) (dVar 0) (dCons (dOp oIx (dVar 3) (dC (.int 0))) (dNil))) (dC (.int 1)))) (.nm 2) : DS) { nx := I (i + 1), rt := D0.rt, bk := dRet (dVar 2) D0, ct := I (i + 1), xc := D0.xc } E2 M0) ∧ ∀ E0 M0, I (stepsD code).length E0 M0 → dRet (dVar 2) D0 E0 M0 := by
    intro stay hstay
    refine ⟨fun i E M' => M' = M ∧ ∃ x : Option D, E = [some (.ref a), some cd, some (.int (costS b (code.take i) : Nat)), x], ⟨rfl, none, rfl⟩, fun i E M' ⟨hx, _⟩ => hstay M' (by rw [hx]; exact Ext.refl _), ?_, ?_⟩
    · rintro i E M' d hd ⟨rfl, x, rfl⟩
      obtain ⟨s, hsi, rfl⟩ := stepsD_get hd
      obtain ⟨d, f⟩ := step_inv (hst s (mem_at hsi))
      refine ⟨a, _, rfl, bm.at_, rfl, ?_⟩
      refine ⟨_, at0, a, b, s.nm, d, rfl, bm, f.find, .int (d.2.1 : Nat), rfl, rfl, some (stD s), ?_⟩
      rw [take_snoc hsi, cost_snoc]
      unfold priceOf
      rw [f.find]
      show [some (D.ref a), some cd, some (D.int _), some (stD s)] = _
      push_cast
      rfl
    · rintro E M' ⟨rfl, x, rfl⟩
      rw [stepsD_len, List.take_length]
      exact h _ (Ext.refl _)
  rcases hs with rfl | ⟨q, rfl, hq⟩
  · exact go (fun _ => True) fun _ _ => trivial
  · exact ⟨_, hq, go (fun M => IsL M q (stepsD code)) fun M' hx => hx _ _ hq⟩
def sp_code_price_x (cl : CF) (CB cE : Addr) : DSp := fun ds M Q E => ∃ (a : Addr) (b : BK) (cd : D) (code : List ST), ds = [.ref a, cd] ∧ BkM cl CB M a b ∧ b.Ok ∧ SeqM M cd (stepsD code) ∧ CodeOk code ∧
  (firstBad b code = none → RetV M Q (.int (costS b code : Nat))) ∧ (∀ i, firstBad b code = some i → ∀ e M1, Ext M M1 → M1 e = none → E (.ref cE) (some e) (updM M1 e (.xd [("at", .int (i : Nat))])))
theorem r_code_price_x (cl : CF) (CB c_BadCode : Addr) : ∀ ds M Q E, sp_code_price_x cl CB c_BadCode ds M Q E → b_code_price_x CB (sp_deed cl CB) (sp_check_code_x cl CB c_BadCode) (EnX Q E) (startD 4 ds) M := by
  rintro ds M Q E ⟨a, b, cd, code, rfl, bm, ok, hs, co, h1, h2⟩
  refine ⟨a, b, cd, code, rfl, bm, ok, hs, co, fun hn M1 x1 => ?_, fun i hi e M1 x1 he => h2 i hi e M1 x1 he⟩
  exact r_price_loop (D0 := EnX Q E) (bm.ext x1) (hs.ext x1) (fb_none hn) fun M' x2 => h1 hn M' (x1.trans x2)
def sp_code_price (cl : CF) (CB : Addr) : DSp := fun ds M Q _ => ∃ (a : Addr) (b : BK) (cd : D) (code : List ST), ds = [.ref a, cd] ∧ BkM cl CB M a b ∧ b.Ok ∧ SeqM M cd (stepsD code) ∧ CodeOk code ∧ firstBad b code = none ∧ RetV M Q (.int (costS b code : Nat))
theorem r_code_price (cl : CF) (CB : Addr) : ∀ ds M Q E, sp_code_price cl CB ds M Q E → b_code_price CB (sp_deed cl CB) (sp_check_code cl CB) (En Q) (startD 4 ds) M := by
  rintro ds M Q E ⟨a, b, cd, code, rfl, bm, ok, hs, co, hn, h1⟩
  refine ⟨a, b, cd, code, rfl, bm, ok, hs, co, hn, fun M1 x1 => ?_⟩
  exact r_price_loop (D0 := En Q) (bm.ext x1) (hs.ext x1) (fb_none hn) fun M' x2 => h1 M' (x1.trans x2)
end Rk

set_option Elab.async false
set_option linter.all false
set_option autoImplicit false
set_option maxRecDepth 100000
set_option maxHeartbeats 4000000
/-! readings for k88: states, the law's counts -/
namespace Rk
open PySem PySem.Spec PyProof.Rows L2 DH Bd Rd
local macro_rules | `(tactic| walk_at "if") => `(tactic| first | (refine ⟨fun _ => ?_, fun hc => absurd hc (by decide)⟩) | (refine ⟨fun hc => absurd hc (by decide), fun _ => ?_⟩))
theorem rep_zero (n : Nat) : (List.replicate n [D.int 0]).flatten = wds (List.replicate n 0) := by
  induction n with
  | zero => rfl
  | succ n ih => rw [List.replicate_succ, List.flatten_cons, ih, List.replicate_succ]; rfl
def sp_begin_state (cl : CF) (CB : Addr) : DSp := fun ds M Q _ => ∃ (a : Addr) (b : BK) (row : List Nat), ds = [.ref a, .tup (wds row)] ∧ BkM cl CB M a b ∧ b.Ok ∧ row.length ≤ b.r ∧ Q (.tup (wds (row ++ List.replicate (b.r - row.length) 0))) M
theorem r_begin_state (cl : CF) (CB : Addr) : ∀ ds M Q E, sp_begin_state cl CB ds M Q E → b_begin_state cl (En Q) (startD 2 ds) M := by
  rintro ds M Q E ⟨a, b, row, rfl, bm, ok, hr, h⟩
  have r4 := ok.r4
  have hl := wds_len row
  refine ⟨by show 1 ≤ sizeLine; decide, ?_⟩
  refine ⟨_, _, _, _, rfl, bm.at_, bm.cl _ (by simp), rfl, ?_⟩
  have ek : (b.r : Int) - ((wds row).length : Int) = ((b.r - row.length : Nat) : Int) := by rw [hl]; omega
  refine ⟨by simp, by show 1 ≤ 1000; decide, by rw [ek]; omega, by rw [ek]; omega, ?_⟩
  rw [ek, show ((b.r - row.length : Nat) : Int).toNat = b.r - row.length by omega, rep_zero]
  refine ⟨Nat.le_of_lt (tolist (by rw [hl, wds_len, List.length_replicate]; omega)), ?_⟩
  have e : wds row ++ wds (List.replicate (b.r - row.length) 0) = wds (row ++ List.replicate (b.r - row.length) 0) := by unfold wds; rw [List.map_append]
  rw [e]
  exact h
theorem ne_test {E : DEnv} {i j n : Nat} {x : D} {M : Mm} {Q : Bool → Mm → Prop} (hi : E[i]? = some (some x)) (hj : E[j]? = some (some x)) (h : OkD n x) (hn : n ≤ 64) (q : Q false M) : dtB (dOp oNe (dVar i) (dVar j)) E M Q := by
  unfold dtB dOp dVar
  rw [hi]
  simp only [hj]
  exact ne_same h hn q
def sp_is_state : DSp := fun ds M Q _ => ∃ xs : List Nat, ds = [.tup (wds xs), .tup (wds xs)] ∧ xs.length ≤ 1000 ∧ RetV M Q (.bl true)
theorem r__law_is_state : ∀ ds M Q E, sp_is_state ds M Q E → b__law_is_state (En Q) (startD 3 ds) M := by
  rintro ds M Q E ⟨xs, rfl, hl, h⟩
  walk_at "if"
  refine ne_test (x := .tup (wds xs)) rfl rfl (ok_wds xs) (by decide) ?_
  walk_at "if"
  intro p hp
  refine ⟨fun i acc M' => Ext M M' ∧ M' p = some (.lst acc) ∧ acc = [], ⟨Ext.new hp, updM_same, rfl⟩, fun _ _ _ _ => trivial, ?_, ?_⟩
  · rintro i acc M' d hd ⟨hx, hm, rfl⟩
    rw [List.getElem?_map] at hd
    obtain ⟨x, _, rfl⟩ := Option.map_eq_some_iff.mp hd
    walk_at "if"
    exact ⟨fun hc => absurd hc (by decide), fun _ => ⟨hx, hm, rfl⟩⟩
  · rintro acc M' ⟨hx, hm, rfl⟩
    exact .inl ⟨_, hm, h M' hx⟩
/-! ### steps are steps -/
theorem find_self {b : BK} (ok : b.Ok) {d : Str × Nat × D} (h : d ∈ b.deeds) : b.find d.1 = some d := by
  have : ∀ l : List (Str × Nat × D), (l.map (·.1)).Nodup → d ∈ l → l.find? (nmIs d.1) = some d := by
    intro l
    induction l with
    | nil => intro _ h; cases h
    | cons x l ih =>
      intro hn hm
      rw [List.map_cons, List.nodup_cons] at hn
      rw [List.find?_cons]
      by_cases e : x.1 = d.1
      · have : nmIs d.1 x = true := decide_eq_true e
        rw [this]
        rcases List.mem_cons.mp hm with rfl | hm
        · rfl
        · exact absurd (List.mem_map.mpr ⟨d, hm, e.symm⟩) hn.1
      · have : nmIs d.1 x = false := decide_eq_false e
        rw [this]
        rcases List.mem_cons.mp hm with rfl | hm
        · exact absurd rfl e
        · exact ih hn.2 hm
  exact this b.deeds ok.nd h
theorem srcRows_lt (r : Nat) : ∀ (n : Nat) (row : List Nat), row ∈ srcRows r n → ∀ x ∈ row, x < r
  | 0, row, h, x, hx => by simp [srcRows] at h; subst h; cases hx
  | n + 1, row, h, x, hx => by
    simp only [srcRows, List.mem_flatMap, List.mem_map, List.mem_range] at h
    obtain ⟨a, ha, y, hy, rfl⟩ := h
    rcases List.mem_append.mp hx with hx | hx
    · exact srcRows_lt r n a ha x hx
    · cases List.mem_singleton.mp hx; exact hy
theorem deedSteps_mem {b : BK} {d : Str × Nat × D} {s : ST} (h : s ∈ deedSteps b d) : ∃ row wd t, row ∈ srcRows b.r (srcN d.2.2) ∧ wd ∈ wordsOf b d.2.2 ∧ t < b.r ∧ s = ⟨d.1, row.map Int.ofNat, wd, (t : Nat)⟩ := by
  unfold deedSteps at h
  simp only [List.mem_flatMap, List.mem_map, List.mem_range] at h
  obtain ⟨row, h1, wd, h2, t, h3, rfl⟩ := h
  exact ⟨row, wd, t, h1, h2, h3, rfl⟩
theorem deedSteps_ok {b : BK} (ok : b.Ok) {d : Str × Nat × D} (hd : d ∈ b.deeds) {s : ST} (h : s ∈ deedSteps b d) : isStep b s = true ∧ b.find s.nm = some d := by
  obtain ⟨row, wd, t, h1, h2, h3, rfl⟩ := deedSteps_mem h
  have hf := find_self ok hd
  refine ⟨?_, hf⟩
  unfold isStep
  show (match b.find d.1 with
    | none => false
    | some d_1 => stepOk b ⟨d.1, row.map Int.ofNat, wd, (t : Nat)⟩ d_1.2.2) = true
  rw [hf]
  show stepOk b ⟨d.1, row.map Int.ofNat, wd, (t : Nat)⟩ d.2.2 = true
  unfold stepOk
  have e1 : (row.map Int.ofNat).length = srcN d.2.2 := by rw [List.length_map]; exact srcRows_row _ _ _ h1
  have e2 : (row.map Int.ofNat).all (srcOk b) = true := by
    rw [List.all_eq_true]
    intro x hx
    obtain ⟨y, hy, rfl⟩ := List.mem_map.mp hx
    have := srcRows_lt _ _ _ h1 y hy
    unfold srcOk
    have a1 : (0 : Int) ≤ Int.ofNat y := Int.natCast_nonneg y
    have a2 : Int.ofNat y < (b.r : Int) := Int.ofNat_lt.mpr this
    rw [decide_eq_true a1, decide_eq_true a2]; rfl
  have e3 : (hasK d.2.2 == wd.isSome && wdOk b wd) = true := by
    unfold wordsOf at h2
    by_cases hk : hasK d.2.2 = true
    · rw [if_pos hk] at h2
      obtain ⟨x, hx, rfl⟩ := List.mem_map.mp h2
      rw [hk]
      show (true && decide ((x : Int) ∈ b.words.map Int.ofNat)) = true
      have hxm : (x : Int) ∈ b.words.map Int.ofNat := List.mem_map.mpr ⟨x, hx, rfl⟩
      rw [decide_eq_true hxm]; rfl
    · have hk : hasK d.2.2 = false := by simpa using hk
      rw [hk] at h2
      have : wd = none := by simpa using h2
      subst this
      rw [hk]; rfl
  have e4 : decide ((0 : Int) ≤ (t : Int)) = true := decide_eq_true (by omega)
  have e5 : decide ((t : Int) < (b.r : Int)) = true := decide_eq_true (by omega)
  rw [e2, e3, decide_eq_true e1, e4, e5]; rfl
theorem steps_ok {b : BK} (ok : b.Ok) {s : ST} (h : s ∈ b.steps) : isStep b s = true := by
  obtain ⟨d, hd, hs⟩ := List.mem_flatMap.mp h
  exact (deedSteps_ok ok hd hs).1
theorem steps_len {b : BK} (ok : b.Ok) : b.steps.length ≤ 40000 := by
  have := fm_le (l := b.deeds) (f := deedSteps b) fun x _ => deedSteps_len ok x
  have d6 := ok.d6
  have : b.deeds.length * 6400 ≤ 6 * 6400 := Nat.mul_le_mul_right _ d6
  unfold BK.steps
  omega
theorem step_src {b : BK} {s : ST} (h : isStep b s = true) : s.src.length ≤ 2 := by
  obtain ⟨d, f⟩ := step_inv h
  rw [f.sl]; exact srcN_le _
/-! ### how many of each price -/
def manyL (b : BK) (l : List ST) : List Nat := (List.range 10).map fun k => l.countP fun s => decide (priceOf b s = k)
theorem fm_len_eq {α β : Type} {f : α → List β} {n : Nat} : ∀ {l : List α}, (∀ x ∈ l, (f x).length = n) → (l.flatMap f).length = l.length * n
  | [], _ => by simp
  | a :: l, h => by
    rw [List.flatMap_cons, List.length_append, List.length_cons, Nat.succ_mul, h a (by simp), fm_len_eq fun x hx => h x (List.mem_cons_of_mem _ hx), Nat.add_comm]
theorem srcRows_pow (r : Nat) : ∀ n, (srcRows r n).length = r ^ n
  | 0 => rfl
  | n + 1 => by
    simp only [srcRows]
    rw [fm_len, srcRows_pow r n, Nat.pow_succ]
theorem wordsOf_eq (b : BK) (f : D) : (wordsOf b f).length = if hasK f then b.words.length else 1 := by
  unfold wordsOf
  split
  · rw [List.length_map]
  · rfl
theorem deedSteps_eq (b : BK) (d : Str × Nat × D) : (deedSteps b d).length = stepCount b d.2.2 := by
  unfold deedSteps stepCount
  rw [fm_len_eq (n := (wordsOf b d.2.2).length * b.r) fun row _ => fm_len_eq fun wd _ => by rw [List.length_map, List.length_range], srcRows_pow, wordsOf_eq]
  rw [Nat.mul_comm b.r (b.r ^ srcN d.2.2), Nat.mul_assoc, Nat.mul_comm b.r]
theorem many_eq {b : BK} (ok : b.Ok) : manyL b b.steps = (List.range 10).map (manyF b) := by
  unfold manyL
  refine List.map_congr_left fun k _ => ?_
  unfold BK.steps manyF
  have : ∀ l : List (Str × Nat × D), (∀ d ∈ l, d ∈ b.deeds) → (l.flatMap (deedSteps b)).countP (fun s => decide (priceOf b s = k)) = (l.map (priceIs k b)).sum := by
    intro l
    induction l with
    | nil => intro _; rfl
    | cons d l ih =>
      intro h
      rw [List.flatMap_cons, List.countP_append, List.map_cons, List.sum_cons, ih fun x hx => h x (List.mem_cons_of_mem _ hx)]
      congr 1
      have hd := h d (by simp)
      have hp : ∀ s ∈ deedSteps b d, priceOf b s = d.2.1 := fun s hs => by
        unfold priceOf
        rw [(deedSteps_ok ok hd hs).2]
      unfold priceIs
      by_cases e : d.2.1 = k
      · rw [if_pos e, ← deedSteps_eq]
        exact List.countP_eq_length.mpr fun s hs => decide_eq_true ((hp s hs).trans e)
      · rw [if_neg e]
        exact List.countP_eq_zero.mpr fun s hs => by rw [hp s hs]; simpa using e
  exact this b.deeds fun d h => h
theorem manyL_len (b : BK) (l : List ST) : (manyL b l).length = 10 := by unfold manyL; simp
theorem manyL_snoc (b : BK) (l : List ST) (s : ST) {p : Nat} (hp : priceOf b s = p) (h9 : p < 10) : (manyL b l).set p ((manyL b l).getD p 0 + 1) = manyL b (l ++ [s]) := by
  apply List.ext_getElem?
  intro i
  by_cases hi : i < 10
  · have a1 : (manyL b l)[i]? = some (l.countP fun s => decide (priceOf b s = i)) := by unfold manyL; rw [List.getElem?_map]; simp [hi]
    have a2 : (manyL b (l ++ [s]))[i]? = some ((l ++ [s]).countP fun s => decide (priceOf b s = i)) := by unfold manyL; rw [List.getElem?_map]; simp [hi]
    have a3 : (manyL b l).getD p 0 = l.countP fun s => decide (priceOf b s = p) := by
      rw [List.getD_eq_getElem?_getD]; unfold manyL; rw [List.getElem?_map]; simp [h9]
    rw [a2, List.countP_append, a3]
    by_cases e : p = i
    · subst e
      rw [List.getElem?_set_self (by rw [manyL_len]; exact hi)]
      congr 1
      rw [List.countP_cons]
      simp [hp]
    · rw [List.getElem?_set_ne e, a1]
      congr 1
      rw [List.countP_cons]
      simp [hp, e]
  · rw [List.getElem?_eq_none (by rw [List.length_set, manyL_len]; omega), List.getElem?_eq_none (by rw [manyL_len]; omega)]
theorem ixN_nat {n j : Nat} (h : j < n) : ixN n (j : Int) = some j := by
  unfold ixN
  simp [h]
def sp_lmany : DSp := fun ds M Q _ => ∃ (a aw ad q : Addr) (b : BK), ds = [.ref a, .ref q] ∧ DaB M a aw ad b ∧ b.Ok ∧ M q = some (.lst (stepsD b.steps)) ∧ RetL M Q (wds ((List.range 10).map (manyF b)))
theorem r__law_many : ∀ ds M Q E, sp_lmany ds M Q E → b__law_many sp_ldeed (En Q) (startD 5 ds) M := by
  rintro ds M Q E ⟨a, aw, ad, q, b, rfl, da, ok, hq, h⟩
  refine ⟨by decide, by decide, fun p hp => ?_⟩
  refine ⟨fun i acc M' => Ext M M' ∧ M' p = some (.lst acc) ∧ acc = List.replicate i (.int 0), ⟨Ext.new hp, updM_same, rfl⟩, fun _ _ _ _ => trivial, ?_, ?_⟩
  · rintro i acc M' d hd ⟨hx, hm, rfl⟩
    obtain ⟨hi, rfl⟩ := rng_at hd
    have hi : i < 10 := hi
    exact ⟨fun _ => ⟨hm, tolist (by rw [List.length_replicate]; omega), hx.mut hp, updM_same, by rw [List.replicate_succ']⟩, fun hc => absurd hc (by decide)⟩
  rintro acc M1 ⟨x1, hm1, rfl⟩
  rw [rng_len] at hm1
  have hm1 : M1 p = some (.lst (wds (manyL b []))) := hm1
  refine ⟨_, x1 _ _ hq, ?_⟩
  refine ⟨fun i E M' => Ext M M' ∧ M' p = some (.lst (wds (manyL b (b.steps.take i)))) ∧ ∃ x3 x4 : Option D, E = [some (.ref a), some (.ref q), some (.ref p), x3, x4], ⟨x1, hm1, none, none, rfl⟩, fun i E M' ⟨hx, _⟩ => hx _ _ hq, ?_, ?_⟩
  · rintro i E M' d0 hd ⟨hx, hm, x3, x4, rfl⟩
    obtain ⟨s, hsi, rfl⟩ := stepsD_get hd
    obtain ⟨d, f⟩ := step_inv (steps_ok ok (mem_at hsi))
    have hpr := ok.pr d f.mem
    have ep : priceOf b s = d.2.1 := by unfold priceOf; rw [f.find]
    have hlt : d.2.1 < (manyL b (b.steps.take i)).length := by rw [manyL_len]; omega
    refine ⟨_, at0, a, aw, ad, b, s.nm, d, rfl, da.ext hx, f.find, .int (d.2.1 : Nat), rfl, ?_⟩
    refine .inl ⟨_, _, .int ((manyL b (b.steps.take i)).getD d.2.1 0 : Nat), hm, rfl, atI_nat (wds_at (getD_at hlt)), ?_⟩
    refine .inl ⟨_, _, d.2.1, hm, rfl, ?_, hx.mut hp, ?_, _, _, rfl⟩
    · exact ixN_nat (by rw [wds_len]; exact hlt)
    · rw [updM_same, take_snoc hsi, ← manyL_snoc b _ s ep (by omega)]
      unfold wds
      rw [List.map_set]
      rfl
  · rintro E M' ⟨hx, hm, x3, x4, rfl⟩
    rw [stepsD_len, List.take_length, many_eq ok] at hm
    exact h p M' hp hx hm
/-! ### the law's counts -/
def sp_lcounts : DSp := fun ds M Q _ => ∃ (q : Addr) (m : Nat → Nat) (n : Nat), ds = [.ref q, .int n] ∧ M q = some (.lst (wds ((List.range 10).map m))) ∧ (∀ k, m k ≤ 1000000) ∧ n ≤ 200 ∧ RetV M Q (.int ((lcounts m n).sum : Nat))
theorem r__law_counts : ∀ ds M Q E, sp_lcounts ds M Q E → b__law_counts (En Q) (startD 5 ds) M := by
  rintro ds M Q E ⟨q, m, n, rfl, hq, hm6, hn, h⟩
  refine ⟨by show 1 ≤ sizeLine; decide, fun p hp => ?_⟩
  have pm : updM M p (.lst [.int 1]) p = some (.lst (wds (lcounts m 0))) := updM_same
  have xp : Ext M (updM M p (.lst [.int 1])) := Ext.new hp
  generalize updM M p (.lst [.int 1]) = M0 at pm xp ⊢
  refine ⟨⟨by omega, by omega, by omega, by omega⟩, ?_⟩
  refine ⟨fun i E M' => Ext M M' ∧ M' p = some (.lst (wds (lcounts m i))) ∧ ∃ x3 : Option D, E = [some (.ref q), some (.int n), some (.ref p), x3, none], ⟨xp, pm, none, rfl⟩, fun _ _ _ _ => trivial, ?_, ?_⟩
  · rintro i E M' d0 hd ⟨hx, hm, x3, rfl⟩
    obtain ⟨hi, rfl⟩ := rng_at hd
    have hi : i < n := by have : i < ((n : Int) + 1 - 1).toNat := hi; omega
    refine ⟨⟨_, hm⟩, ?_⟩
    have emin : (if (9 : Int) < 1 + (i : Int) then (9 : Int) else 1 + (i : Int)) = ((min (i + 1) 9 : Nat) : Int) := by
      split <;> omega
    have bds : -(2 ^ 62 : Int) ≤ ((min (i + 1) 9 : Nat) : Int) + 1 ∧ ((min (i + 1) 9 : Nat) : Int) + 1 < 2 ^ 62 := by constructor <;> omega
    refine ⟨⟨by omega, by omega, by rw [emin]; exact bds.1, by rw [emin]; exact bds.2⟩, ?_⟩
    rw [emin, show (((min (i + 1) 9 : Nat) : Int) + 1 - 1).toNat = min (i + 1) 9 by omega]
    intro r hr
    have hrp : r ≠ p := Ne.symm (Ext.ne hm hr)
    refine ⟨fun k acc M2 => Ext M' M2 ∧ M2 r = some (.lst acc) ∧ acc = wds (((List.range (min (i + 1) 9)).take k).map fun k => m (k + 1) * (lcounts m i).getD (i + 1 - (k + 1)) 0), ⟨Ext.new hr, updM_same, rfl⟩, fun _ _ _ _ => trivial, ?_, ?_⟩
    · rintro k acc M2 d1 hd1 ⟨hx2, hm2, rfl⟩
      obtain ⟨hk, rfl⟩ := rng_at hd1
      refine ⟨fun _ => ?_, fun hc => absurd hc (by decide)⟩
      have a1 : ((List.range 10).map m)[k + 1]? = some (m (k + 1)) := by
        rw [List.getElem?_map]
        have : k + 1 < 10 := by omega
        simp [this]
      refine .inl ⟨_, _, .int (m (k + 1) : Nat), hx2 _ _ (hx _ _ hq), rfl, ?_, ?_⟩
      · rw [show (1 : Int) + (k : Int) = ((k + 1 : Nat) : Int) by omega]
        exact atI_nat (wds_at a1)
      have hidx : i + 1 - (k + 1) < (lcounts m i).length := by rw [lcounts_len]; omega
      refine .inl ⟨_, _, .int ((lcounts m i).getD (i + 1 - (k + 1)) 0 : Nat), hx2 _ _ hm, rfl, ?_, ?_⟩
      · rw [show (1 : Int) + (i : Int) - (1 + (k : Int)) = ((i + 1 - (k + 1) : Nat) : Int) by omega]
        exact atI_nat (wds_at (getD_at hidx))
      have := hm6 (k + 1)
      refine ⟨.inl ⟨by omega, by omega⟩, hm2, tolist (by rw [wds_len, List.length_map, List.length_take, List.length_range]; omega), hx2.mut hr, updM_same, ?_⟩
      have hk2 : (List.range (min (i + 1) 9))[k]? = some k := by simp [hk]
      rw [take_map _ hk2, wds_snoc, nmul]
    · rintro acc M2 ⟨hx2, hm2, rfl⟩
      rw [rng_len, List.take_of_length_le (by simp), wds_ints] at hm2
      refine ⟨r, _, rfl, hm2, ?_⟩
      have hmp := hx2 _ _ hm
      refine ⟨_, hmp, tolist (by rw [wds_len, lcounts_len]; omega), (hx.trans hx2).mut hp, ?_, _, rfl⟩
      rw [updM_same, sum_ints, ← wds_snoc]
      rfl
  · rintro E M' ⟨hx, hm, x3, rfl⟩
    have hm : M' p = some (.lst (wds (lcounts m n))) := by
      have hl : (rngD 1 ((n : Int) + 1 - 1).toNat).length = n := by rw [rng_len]; omega
      have hm : M' p = some (.lst (wds (lcounts m (rngD 1 ((n : Int) + 1 - 1).toNat).length))) := hm
      rw [hl] at hm; exact hm
    rw [wds_ints] at hm
    exact ⟨p, _, rfl, hm, qi (h M' hx) (sum_ints _)⟩
end Rk

set_option Elab.async false
set_option linter.all false
set_option autoImplicit false
set_option maxRecDepth 100000
set_option maxHeartbeats 4000000
/-! readings for k88: caught exceptions, spoilt steps -/
namespace Rk
open PySem PySem.Spec PyProof.Rows L2 DH Bd Rd
local macro_rules | `(tactic| walk_at "if") => `(tactic| first | (refine ⟨fun _ => ?_, fun hc => absurd hc (by decide)⟩) | (refine ⟨fun hc => absurd hc (by decide), fun _ => ?_⟩))
def fbI : Option Nat → Int
  | none => -1
  | some i => i
def sp_lbad (cl : CF) (CB : Addr) : DSp := fun ds M Q _ => ∃ (a : Addr) (b : BK) (cd : D) (code : List ST) (st : List Nat) (k : Nat), ds = [.ref a, cd, .tup (wds st), .int k] ∧ k < 3 ∧ BkM cl CB M a b ∧ b.Ok ∧ SeqM M cd (stepsD code) ∧ CodeOk code ∧ StOk b st ∧ RetV M Q (.int (fbI (firstBad b code)))
theorem r__law_bad (cl : CF) (CB c_BadCode c_NoneshorterError c_BadText : Addr) (sub kN kT : Value → Option Bool) (xs_BadCode : sub (.ref c_BadCode) = some true) (xk_BadCode_NoneshorterError : kN (.ref c_BadCode) = some true) (xk_BadCode_BadText : kT (.ref c_BadCode) = some false) :
    ∀ ds M Q E, sp_lbad cl CB ds M Q E → b__law_bad c_BadCode c_NoneshorterError c_BadText sub kN kT (sp_check_code_x cl CB c_BadCode) (sp_code_price_x cl CB c_BadCode) (sp_run_code_x cl CB c_BadCode) (En Q) (startD 5 ds) M := by
  rintro ds M Q E ⟨a, b, cd, code, st, k, rfl, hk, bm, ok, hs, co, so, h⟩
  have bad : ∀ (i : Nat), firstBad b code = some i → ∀ (e : Addr) (M1 : Mm), Ext M M1 → M1 e = none → ∃ bb, sub (.ref c_BadCode) = some bb ∧ (bb = true → ∀ x : Addr, updM M1 e (.xd [("at", .int (i : Nat))]) x = none →
      (dSeq (dIf (dtOr (dtNot (dtE (dIsX kN x (.ref c_BadCode) (some e) c_BadCode (dVar 4)))) (dtOr (dtE (dIsX kT x (.ref c_BadCode) (some e) c_BadCode (dVar 4))) (dtE (dIs [.bl] (dXf x (.ref c_BadCode) (some e) c_BadCode "at" (dVar 4)))))) (dRet (dUn oNeg (dC (.int 2)))) (dNext)) (dRet (dXf x (.ref c_BadCode) (some e) c_BadCode "at" (dVar 4))) : DS)
        { nx := fun E2 M2 => dRet (dUn oNeg (dC (.int 1))) (En Q) (E2.set 4 none) M2, rt := Q, bk := fun _ _ => False, ct := fun _ _ => False } [some (.ref a), some cd, some (.tup (wds st)), some (.int (k : Nat)), some (.ref x)] (updM M1 e (.xd [("at", .int (i : Nat))]))) ∧ (bb = false → False) := by
    intro i hi e M1 x1 he
    refine ⟨true, xs_BadCode, fun _ x hx => ?_, fun hc => absurd hc (by decide)⟩
    have hm : updM M1 e (.xd [("at", .int (i : Nat))]) e = some (.xd [("at", .int (i : Nat))]) := updM_same
    refine ⟨rfl, rfl, e, _, true, rfl, hm, xk_BadCode_NoneshorterError, ?_⟩
    walk_at "if"
    refine ⟨rfl, rfl, e, _, false, rfl, hm, xk_BadCode_BadText, ?_⟩
    walk_at "if"
    refine ⟨rfl, rfl, e, _, .int (i : Nat), rfl, hm, rfl, ?_⟩
    walk_at "if"
    refine ⟨rfl, rfl, e, _, .int (i : Nat), rfl, hm, rfl, ?_⟩
    have := h _ (x1.trans (Ext.new (o := .xd [("at", .int (i : Nat))]) he))
    rw [hi] at this
    exact this
  have good : firstBad b code = none → ∀ M1, Ext M M1 → Q (.int (-1)) M1 := fun hn M1 x1 => by
    have := h M1 x1
    rw [hn] at this
    exact this
  match k, hk with
  | 0, _ =>
    walk_at "if"
    refine ⟨a, b, cd, code, rfl, bm, ok, hs, co, fun hn M1 x1 => ?_, fun i hi e M1 x1 he => bad i hi e M1 x1 he⟩
    walk_at "if"
    walk_at "if"
    exact good hn M1 x1
  | 1, _ =>
    walk_at "if"
    walk_at "if"
    refine ⟨a, b, cd, code, rfl, bm, ok, hs, co, fun hn M1 x1 => ?_, fun i hi e M1 x1 he => bad i hi e M1 x1 he⟩
    walk_at "if"
    exact good hn M1 x1
  | 2, _ =>
    walk_at "if"
    walk_at "if"
    walk_at "if"
    exact ⟨a, b, cd, code, st, rfl, bm, ok, hs, co, so, fun hn M1 x1 => good hn M1 x1, fun i hi e M1 x1 he => bad i hi e M1 x1 he⟩
def sp_lunknown (cl : CF) (CB : Addr) : DSp := fun ds M Q _ => ∃ (a : Addr) (b : BK) (n : Str), ds = [.ref a, .str n] ∧ BkM cl CB M a b ∧ n.length ≤ 1000 ∧ b.find n = none ∧ RetV M Q (.bl true)
theorem r__law_unknown (cl : CF) (CB c_NoName c_NoneshorterError : Addr) (sub kN : Value → Option Bool) (xs_NoName : sub (.ref c_NoName) = some true) (xk_NoName_NoneshorterError : kN (.ref c_NoName) = some true) :
    ∀ ds M Q E, sp_lunknown cl CB ds M Q E → b__law_unknown CB c_NoName c_NoneshorterError sub kN (sp_deed_x cl CB c_NoName) (En Q) (startD 3 ds) M := by
  rintro ds M Q E ⟨a, b, n, rfl, bm, hl, hn, h⟩
  refine ⟨a, _, rfl, bm.at_, rfl, ?_⟩
  refine ⟨a, b, n, rfl, bm, hl, fun d hd => (by rw [hn] at hd; cases hd), fun _ e he => ⟨true, xs_NoName, fun _ x hx => ?_, fun hc => absurd hc (by decide)⟩⟩
  have hm : updM M e (.xd [("name", .str n)]) e = some (.xd [("name", .str n)]) := updM_same
  refine ⟨rfl, rfl, e, _, true, rfl, hm, xk_NoName_NoneshorterError, fun _ => ?_, fun hc => absurd hc (by decide)⟩
  refine ⟨rfl, rfl, e, _, .str n, rfl, hm, rfl, ?_⟩
  exact qb (h _ (Ext.new he)) (decide_eq_true rfl)
/-! ### spoilt steps -/
theorem not_step {b : BK} {s s' : ST} {d : Str × Nat × D} (f : StepF b s d) (hnm : s'.nm = s.nm) (h : StepF b s' d → False) : isStep b s' = false := by
  cases q : isStep b s' with
  | false => rfl
  | true =>
    obtain ⟨d', f'⟩ := step_inv q
    have := f'.find
    rw [hnm, f.find] at this
    cases this
    exact (h f').elim
theorem DaB.go {M M' : Mm} {a aw ad c : Addr} {b : BK} (h : DaB M a aw ad b) (d : Dr c M M') (n0 : a ≠ c) (n1 : aw ≠ c) (n2 : ad ≠ c) : DaB M' a aw ad b := ⟨d.ex _ _ n0 h.h0, d.ex _ _ n1 h.h1, d.ex _ _ n2 h.h2⟩
theorem pigeon : ∀ (n : Nat) (l : List Nat), (∀ i < n, i ∈ l) → n ≤ l.length
  | 0, _, _ => Nat.zero_le _
  | n + 1, l, h => by
    have hm := h n (by omega)
    have := pigeon n (l.erase n) fun i hi => (List.mem_erase_of_ne (by omega)).mpr (h i (by omega))
    rw [List.length_erase_of_mem hm] at this
    have : 0 < l.length := List.length_pos_of_mem hm
    omega
def sp_lspoilt : DSp := fun ds M Q _ => ∃ (p c a aw ad : Addr) (b : BK) (s : ST), ds = [.ref p, .ref c, .ref a, stD s] ∧ Dw p c M ∧ DaB M a aw ad b ∧ a ≠ c ∧ aw ≠ c ∧ ad ≠ c ∧ b.Ok ∧ isStep b s = true ∧ b.find "zz" = none ∧ ∀ s' M', isStep b s' = false → s'.src.length ≤ 10 → s'.nm.length ≤ 1000 ∧ PyData.strOk s'.nm = true → Dr c M M' → Q (stD s') M'
theorem find_nm {b : BK} {n : Str} {d : Str × Nat × D} (h : b.find n = some d) : d.1 = n := by
  rw [BK.find_eq] at h
  have := List.find?_some (p := nmIs n) h
  exact of_decide_eq_true this
def b_sp11 : DS := dRet (dTup (dCons (dVar 4) (dCons (dVar 5) (dCons (dVar 6) (dCons (dOp oIx (dVar 2) (dC (.int 1))) (dNil))))))
def b_sp10 : DS := dSeq (dIf (dtAnd (dtB (dOp oEq (dVar 8) (dC (.int 7)))) (dtB (dOp oLt (dL oLen (dCons (dOp oIx (dVar 2) (dC (.int 2))) (dNil))) (dOp oShl (dC (.int 1)) (dOp oIx (dVar 2) (dC (.int 0))))))) (dRet (dTup (dCons (dVar 4) (dCons (dVar 5) (dCons (dOp oIx (dLc (dRng1 (dCons (dOp oShl (dC (.int 1)) (dOp oIx (dVar 2) (dC (.int 0)))) (dNil))) (.nm 9) (dtB (dOp (oIn true) (dVar 9) (dOp oIx (dVar 2) (dC (.int 2))))) (dVar 9) [9]) (dC (.int 0))) (dCons (dVar 7) (dNil))))))) (dNext)) b_sp11
def b_sp9 : DS := dSeq (dIf (dtAnd (dtB (dOp oEq (dVar 8) (dC (.int 7)))) (dtB (dOp (oIs false) (dVar 6) (dC .non)))) (dRet (dTup (dCons (dVar 4) (dCons (dVar 5) (dCons (dC (.int 0)) (dCons (dVar 7) (dNil))))))) (dNext)) b_sp10
def b_sp8 : DS := dSeq (dIf (dtAnd (dtB (dOp oEq (dVar 8) (dC (.int 6)))) (dtB (dOp (oIs true) (dVar 6) (dC .non)))) (dRet (dTup (dCons (dVar 4) (dCons (dVar 5) (dCons (dC .non) (dCons (dVar 7) (dNil))))))) (dNext)) b_sp9
def b_sp7 : DS := dSeq (dIf (dtB (dOp oEq (dVar 8) (dC (.int 5)))) (dRet (dTup (dCons (dVar 4) (dCons (dVar 5) (dCons (dVar 6) (dCons (dUn oNeg (dC (.int 1))) (dNil))))))) (dNext)) b_sp8
def b_sp6 : DS := dSeq (dIf (dtAnd (dtB (dOp oEq (dVar 8) (dC (.int 4)))) (dtB (dOp oGt (dL oLen (dCons (dVar 5) (dNil))) (dC (.int 0))))) (dRet (dTup (dCons (dVar 4) (dCons (dOp oAdd (dTup (dCons (dUn oNeg (dC (.int 1))) (dNil))) (dSl (dVar 5) (dPart (dC (.int 1))) dNoPart)) (dCons (dVar 6) (dCons (dVar 7) (dNil))))))) (dNext)) b_sp7
def b_sp5 : DS := dSeq (dIf (dtAnd (dtB (dOp oEq (dVar 8) (dC (.int 3)))) (dtB (dOp oGt (dL oLen (dCons (dVar 5) (dNil))) (dC (.int 0))))) (dRet (dTup (dCons (dVar 4) (dCons (dOp oAdd (dSl (dVar 5) (dPart (dC (.int 1))) dNoPart) (dTup (dCons (dOp oIx (dVar 2) (dC (.int 1))) (dNil)))) (dCons (dVar 6) (dCons (dVar 7) (dNil))))))) (dNext)) b_sp6
def b_sp4 : DS := dSeq (dIf (dtAnd (dtB (dOp oEq (dVar 8) (dC (.int 2)))) (dtB (dOp oGt (dL oLen (dCons (dVar 5) (dNil))) (dC (.int 0))))) (dRet (dTup (dCons (dVar 4) (dCons (dSl (dVar 5) (dPart (dC (.int 1))) dNoPart) (dCons (dVar 6) (dCons (dVar 7) (dNil))))))) (dNext)) b_sp5
def b_sp3 : DS := dSeq (dIf (dtB (dOp oEq (dVar 8) (dC (.int 1)))) (dRet (dTup (dCons (dVar 4) (dCons (dOp oAdd (dVar 5) (dTup (dCons (dC (.int 0)) (dNil)))) (dCons (dVar 6) (dCons (dVar 7) (dNil))))))) (dNext)) b_sp4
/-- what every tail of the body may use -/
structure SpI (M1 : Mm) (Q : DQ) (a aw ad : Addr) (b : BK) (d : Str × Nat × D) (nm : Str) (src : List Int) (wd : Option Int) (tg : Int) : Prop where
  da : DaB M1 a aw ad b
  ok : b.Ok
  sl2 : src.length ≤ 2
  fsl : src.length = srcN d.2.2
  fk : hasK d.2.2 = wd.isSome
  ret : ∀ s' : ST, s'.nm = nm → (StepF b s' d → False) → s'.src.length ≤ 10 → ∀ M2, Ext M1 M2 → Q (stD s') M2
abbrev SpE (p c a : Addr) (nm : Str) (src : List Int) (wd : Option Int) (tg : Int) (r : Nat) : DEnv := [some (.ref p), some (.ref c), some (.ref a), some (stD ⟨nm, src, wd, tg⟩), some (.str nm), some (.tup (src.map .int)), some (wdD wd), some (.int tg), some (.int (r : Nat)), none]
section
variable {M1 : Mm} {Q : DQ} {p c a aw ad : Addr} {b : BK} {d : Str × Nat × D} {nm : Str} {src : List Int} {wd : Option Int} {tg : Int} {r : Nat}
theorem sp_cut (src : List Int) : cutL D (src.map D.int) (some 1) none = (src.drop 1).map D.int := by rw [cut1, List.map_drop]
theorem sp_pos (hc : decide ((0 : Int) < (((src.map D.int).length : Nat) : Int)) = true) : 0 < src.length := by
  have := of_decide_eq_true hc
  rw [List.length_map] at this; omega
theorem sp_sz (h : src.length ≤ 2) : src.length + 10 ≤ sizeLine := Nat.le_of_lt (tolist (by omega))
theorem t_sp11 (I : SpI M1 Q a aw ad b d nm src wd tg) : b_sp11 (En Q) (SpE p c a nm src wd tg r) M1 := by
  have := I.sl2
  exact .inl ⟨_, _, .int b.r, I.da.h0, rfl, rfl, by show 4 ≤ sizeLine; decide, I.ret ⟨nm, src, wd, b.r⟩ rfl (fun g => by have h : (b.r : Int) < (b.r : Int) := g.tr; omega) (by show src.length ≤ 10; omega) M1 (Ext.refl _)⟩
theorem t_sp10 (I : SpI M1 Q a aw ad b d nm src wd tg) : b_sp10 (En Q) (SpE p c a nm src wd tg r) M1 := by
  have w4 := I.ok.w4
  have := I.sl2
  have hpow : (1 : Int) * 2 ^ ((b.w : Int)).toNat = ((2 ^ b.w : Nat) : Int) := pow_cast b.w
  have pb : 2 ^ b.w ≤ 16 := by
    have : ∀ w : Fin 5, 2 ^ w.1 ≤ 16 := by decide
    exact this ⟨b.w, by omega⟩
  refine ⟨fun _ => ?_, fun _ => ⟨fun hc => absurd hc (by decide), fun _ => t_sp11 I⟩⟩
  refine .inl ⟨_, _, .ref aw, I.da.h0, rfl, rfl, .inl ⟨_, I.da.h1, .inl ⟨_, _, .int b.w, I.da.h0, rfl, at0, cpow b.w (by omega) (by decide), fun hc => ?_, fun _ => t_sp11 I⟩⟩⟩
  have hc : decide ((((wds b.words).length : Nat) : Int) < 1 * 2 ^ ((b.w : Int)).toNat) = true := hc
  rw [hpow, wds_len] at hc
  have hlt := of_decide_eq_true hc
  refine .inl ⟨_, _, .int b.w, I.da.h0, rfl, at0, cpow b.w (by omega) (by decide), ?_⟩
  have e1 : (1 : Int) * 2 ^ ((b.w : Int)).toNat = ((2 ^ b.w : Nat) : Int) := hpow
  refine ⟨by rw [e1]; omega, by rw [e1]; omega, fun q hq => ?_⟩
  rw [e1]
  -- the free words
  refine ⟨fun i acc M' => Ext M1 M' ∧ M' q = some (.lst acc) ∧ acc = wds ((List.range i).filter fun x => !decide (x ∈ b.words)), ⟨Ext.new hq, updM_same, rfl⟩, fun _ _ _ _ => trivial, ?_, ?_⟩
  · rintro i acc M' d0 hd ⟨hx, hm, rfl⟩
    obtain ⟨hi, rfl⟩ := rng_at hd
    have hi : i < 2 ^ b.w := by have : i < ((2 ^ b.w : Nat) : Int).toNat := hi; omega
    rw [Int.zero_add]
    have em : decide ((i : Int) ∈ b.words.map Int.ofNat) = decide (i ∈ b.words) := by
      rw [decide_eq_decide, List.mem_map]
      constructor
      · rintro ⟨x, hx, e⟩
        have : x = i := Int.ofNat.inj e
        exact this ▸ hx
      · intro hx; exact ⟨i, hx, rfl⟩
    refine .inl ⟨_, _, .ref aw, hx _ _ I.da.h0, rfl, rfl, .inl ⟨_, hx _ _ I.da.h1, rfl, flat_ints _, fun hc => ?_, fun hc => ?_⟩⟩
    · have hc : (!inD (.int i) (wds b.words)) = true := hc
      rw [inD_ints, em] at hc
      refine ⟨hm, tolist ?_, hx.mut hq, updM_same, ?_⟩
      · rw [wds_len]
        have := List.length_filter_le (fun x => !decide (x ∈ b.words)) (List.range i)
        rw [List.length_range] at this; omega
      · rw [List.range_succ, List.filter_append, List.filter_cons, if_pos hc, List.filter_nil, wds_snoc]
    · have hc : (!inD (.int i) (wds b.words)) = false := hc
      rw [inD_ints, em] at hc
      refine ⟨hx, hm, ?_⟩
      rw [List.range_succ, List.filter_append, List.filter_cons, if_neg (by rw [hc]; decide), List.filter_nil, List.append_nil]
  · rintro acc M' ⟨hx, hm, rfl⟩
    rw [rng_len, show ((2 ^ b.w : Nat) : Int).toNat = 2 ^ b.w by omega] at hm
    have ne : 0 < ((List.range (2 ^ b.w)).filter fun x => !decide (x ∈ b.words)).length := by
      rw [List.length_pos_iff_exists_mem]
      refine Classical.byContradiction fun hno => ?_
      have := pigeon (2 ^ b.w) b.words fun i hi => Classical.byContradiction fun hni => hno ⟨i, List.mem_filter.mpr ⟨List.mem_range.mpr hi, by rw [decide_eq_false hni]; rfl⟩⟩
      omega
    have hat := getE ne
    have hmem := List.getElem_mem ne
    generalize ((List.range (2 ^ b.w)).filter fun x => !decide (x ∈ b.words))[0] = z at hat hmem
    have hz : z ∉ b.words := by
      have := (List.mem_filter.mp hmem).2
      simpa using this
    refine .inl ⟨_, _, .int z, hm, rfl, atI_nat (wds_at hat), ?_⟩
    refine ⟨by show 4 ≤ sizeLine; decide, ?_⟩
    refine I.ret ⟨nm, src, some (z : Int), tg⟩ rfl (fun g => ?_) (by show src.length ≤ 10; omega) M' hx
    obtain ⟨x, hx1, e⟩ := List.mem_map.mp (g.wd (z : Int) rfl)
    have : x = z := Int.ofNat.inj e
    exact hz (this ▸ hx1)
theorem t_sp9 (I : SpI M1 Q a aw ad b d nm src wd tg) : b_sp9 (En Q) (SpE p c a nm src wd tg r) M1 := by
  have := I.sl2
  refine ⟨fun _ => ?_, fun _ => ⟨fun hc => absurd hc (by decide), fun _ => t_sp10 I⟩⟩
  cases wd with
  | none =>
    refine ⟨fun _ => ⟨by show 4 ≤ sizeLine; decide, I.ret ⟨nm, src, some 0, tg⟩ rfl (fun g => by have h := g.hk; rw [I.fk] at h; simp at h) (by show src.length ≤ 10; omega) M1 (Ext.refl _)⟩, fun hc => absurd hc (by decide)⟩
  | some v => exact ⟨fun hc => absurd hc (by simp [nonD, wdD]), fun _ => t_sp10 I⟩
theorem t_sp8 (I : SpI M1 Q a aw ad b d nm src wd tg) : b_sp8 (En Q) (SpE p c a nm src wd tg r) M1 := by
  have := I.sl2
  refine ⟨fun _ => ?_, fun _ => ⟨fun hc => absurd hc (by decide), fun _ => t_sp9 I⟩⟩
  cases wd with
  | none => exact ⟨fun hc => absurd hc (by decide), fun _ => t_sp9 I⟩
  | some v => exact ⟨fun _ => ⟨by show 4 ≤ sizeLine; decide, I.ret ⟨nm, src, none, tg⟩ rfl (fun g => by have h := g.hk; rw [I.fk] at h; simp at h) (by show src.length ≤ 10; omega) M1 (Ext.refl _)⟩, fun hc => absurd hc (by simp [nonD, wdD])⟩
theorem t_sp7 (I : SpI M1 Q a aw ad b d nm src wd tg) : b_sp7 (En Q) (SpE p c a nm src wd tg r) M1 := by
  have := I.sl2
  exact ⟨fun _ => ⟨by show 4 ≤ sizeLine; decide, I.ret ⟨nm, src, wd, -1⟩ rfl (fun g => by have h : (0 : Int) ≤ -1 := g.t0; omega) (by show src.length ≤ 10; omega) M1 (Ext.refl _)⟩, fun _ => t_sp8 I⟩
theorem t_sp6 (I : SpI M1 Q a aw ad b d nm src wd tg) : b_sp6 (En Q) (SpE p c a nm src wd tg r) M1 := by
  have h2 := I.sl2
  have hz := sp_sz h2
  refine ⟨fun _ => ⟨fun hc => ?_, fun _ => t_sp7 I⟩, fun _ => ⟨fun hc => absurd hc (by decide), fun _ => t_sp7 I⟩⟩
  have hp := sp_pos hc
  have := I.ret ⟨nm, [(-1 : Int)] ++ src.drop 1, wd, tg⟩ rfl (fun g => by have := (g.src (-1 : Int) (by simp)).1; omega) (by show ([(-1 : Int)] ++ src.drop 1).length ≤ 10; simp; omega) M1 (Ext.refl _)
  unfold stD at this
  rw [List.map_append, ← sp_cut] at this
  refine ⟨by show 1 ≤ sizeLine; decide, ?_⟩
  exact ⟨by rw [sp_cut]; show 1 + ((src.drop 1).map D.int).length ≤ sizeLine; rw [List.length_map, List.length_drop]; omega, by show 4 ≤ sizeLine; decide, this⟩
theorem t_sp5 (I : SpI M1 Q a aw ad b d nm src wd tg) : b_sp5 (En Q) (SpE p c a nm src wd tg r) M1 := by
  have h2 := I.sl2
  have hz := sp_sz h2
  refine ⟨fun _ => ⟨fun hc => ?_, fun _ => t_sp6 I⟩, fun _ => ⟨fun hc => absurd hc (by decide), fun _ => t_sp6 I⟩⟩
  have hp := sp_pos hc
  have := I.ret ⟨nm, src.drop 1 ++ [(b.r : Int)], wd, tg⟩ rfl (fun g => by have := (g.src (b.r : Int) (by simp)).2; omega) (by show (src.drop 1 ++ [(b.r : Int)]).length ≤ 10; simp; omega) M1 (Ext.refl _)
  unfold stD at this
  rw [List.map_append, ← sp_cut] at this
  refine .inl ⟨_, _, .int b.r, I.da.h0, rfl, rfl, by show 1 ≤ sizeLine; decide, ?_⟩
  exact ⟨by rw [sp_cut]; show ((src.drop 1).map D.int).length + 1 ≤ sizeLine; rw [List.length_map, List.length_drop]; omega, by show 4 ≤ sizeLine; decide, this⟩
theorem t_sp4 (I : SpI M1 Q a aw ad b d nm src wd tg) : b_sp4 (En Q) (SpE p c a nm src wd tg r) M1 := by
  have h2 := I.sl2
  refine ⟨fun _ => ⟨fun hc => ?_, fun _ => t_sp5 I⟩, fun _ => ⟨fun hc => absurd hc (by decide), fun _ => t_sp5 I⟩⟩
  have hp := sp_pos hc
  have fsl := I.fsl
  have := I.ret ⟨nm, src.drop 1, wd, tg⟩ rfl (fun g => by have h : (src.drop 1).length = srcN d.2.2 := g.sl; simp at h; omega) (by show (src.drop 1).length ≤ 10; simp; omega) M1 (Ext.refl _)
  unfold stD at this
  rw [← sp_cut] at this
  exact ⟨by show 4 ≤ sizeLine; decide, this⟩
theorem t_sp3 (I : SpI M1 Q a aw ad b d nm src wd tg) : b_sp3 (En Q) (SpE p c a nm src wd tg r) M1 := by
  have h2 := I.sl2
  have hz := sp_sz h2
  refine ⟨fun _ => ?_, fun _ => t_sp4 I⟩
  refine ⟨by show 1 ≤ sizeLine; decide, by show (src.map D.int).length + 1 ≤ sizeLine; rw [List.length_map]; omega, by show 4 ≤ sizeLine; decide, ?_⟩
  have fsl := I.fsl
  have := I.ret ⟨nm, src ++ [0], wd, tg⟩ rfl (fun g => by have h : (src ++ [(0 : Int)]).length = srcN d.2.2 := g.sl; simp at h; omega) (by show (src ++ [(0 : Int)]).length ≤ 10; simp; omega) M1 (Ext.refl _)
  unfold stD at this
  rw [List.map_append] at this
  exact this
end
theorem r__law_spoilt_v2 : ∀ ds M Q E, sp_lspoilt ds M Q E → b__law_spoilt_v2 sp_take (En Q) (startD 10 ds) M := by
  rintro ds M Q E ⟨p, c, a, aw, ad, b, ⟨nm, src, wd, tg⟩, rfl, dw, da, n0, n1, n2, ok, hs, hz, h⟩
  obtain ⟨d, f⟩ := step_inv hs
  have sl2 : src.length ≤ 2 := step_src hs
  have snm : nm.length ≤ 1000 ∧ PyData.strOk nm = true := by
    have := (ok.nm d f.mem).2
    rw [find_nm f.find] at this; exact this
  refine ⟨rfl, ?_⟩
  refine ⟨p, c, 8, rfl, by decide, dw, fun r hr M1 d1 => ?_⟩
  have I : SpI M1 Q a aw ad b d nm src wd tg := ⟨da.go d1 n0 n1 n2, ok, sl2, f.sl, f.hk, fun s' hn hf hl M2 x2 => h s' M2 (not_step f hn hf) hl (by rw [hn]; exact snm) (d1.trans (.ofExt x2))⟩
  refine ⟨fun _ => ?_, fun _ => t_sp3 (p := p) (c := c) (r := r) I⟩
  refine ⟨by show 4 ≤ sizeLine; decide, ?_⟩
  refine h ⟨"zz", src, wd, tg⟩ M1 ?_ (by show src.length ≤ 10; omega) ⟨by show ("zz" : Str).length ≤ 1000; decide, by show PyData.strOk ("zz" : Str) = true; decide +kernel⟩ d1
  unfold isStep
  show (match b.find "zz" with
    | none => false
    | some d => stepOk b ⟨"zz", src, wd, tg⟩ d.2.2) = false
  rw [hz]
end Rk

set_option Elab.async false
set_option linter.all false
set_option autoImplicit false
set_option maxRecDepth 100000
set_option maxHeartbeats 4000000
/-! readings for k88: a drawn book -/
namespace Rk
open PySem PySem.Spec PyProof.Rows L2 DH Bd Rd
local macro_rules | `(tactic| walk_at "if") => `(tactic| first | (refine ⟨fun _ => ?_, fun hc => absurd hc (by decide)⟩) | (refine ⟨fun hc => absurd hc (by decide), fun _ => ?_⟩))
def b_bk7 (s__law_take s__law_formula s__law_names s__law_size : DSp) : DS := dDrop (dApp (dVar 8) (dTup (dCons (dVar 12) (dCons (dOp oAdd (dC (.int 1)) (dOp oMul (dCall s__law_take (dCons (dVar 0) (dCons (dVar 1) (dCons (dC (.int 3)) (dNil))))) (dCall s__law_take (dCons (dVar 0) (dCons (dVar 1) (dCons (dC (.int 5)) (dNil))))))) (dCons (dVar 11) (dNil))))))
def b_bk6 (s__law_take s__law_formula s__law_names s__law_size : DSp) : DS := dSeq (dAsg (dOp oIx (dLst (dCons (dC (.str "add")) (dCons (dC (.str "x")) (dCons (dC (.str "nand1")) (dCons (dC (.str "shlk")) (dCons (dC (.str "q7")) (dCons (dC (.str "set")) (dNil)))))))) (dOp oMod (dOp oAdd (dVar 9) (dVar 7)) (dC (.int 6)))) (.nm 12)) (b_bk7 s__law_take s__law_formula s__law_names s__law_size)
def b_bk5 (s__law_take s__law_formula s__law_names s__law_size : DSp) : DS := dSeq (dIf (dtOr (dtB (dOp oGt (dCall s__law_size (dCons (dVar 11) (dNil))) (dC (.int 9)))) (dtAnd (dtB (dOp (oIn false) (dC (.str "b")) (dCall s__law_names (dCons (dVar 11) (dNil))))) (dtB (dOp (oIn true) (dC (.str "a")) (dCall s__law_names (dCons (dVar 11) (dNil))))))) (dAsg (dTup (dCons (dC (.str "neg")) (dCons (dC (.str "a")) (dNil)))) (.nm 11)) (dNext)) (b_bk6 s__law_take s__law_formula s__law_names s__law_size)
def b_bk4 (s__law_take s__law_formula s__law_names s__law_size : DSp) : DS := dSeq (dIf (dtB (dOp oGt (dCall s__law_size (dCons (dVar 11) (dNil))) (dC (.int 9)))) (dAsg (dTup (dCons (dC (.str "xor")) (dCons (dOp oIx (dVar 11) (dC (.int 1))) (dCons (dC (.str "a")) (dNil))))) (.nm 11)) (dNext)) (b_bk5 s__law_take s__law_formula s__law_names s__law_size)
def b_bk3 (s__law_take s__law_formula s__law_names s__law_size : DSp) : DS := dSeq (dIf (dtAnd (dtB (dOp (oIn false) (dC (.str "b")) (dCall s__law_names (dCons (dVar 11) (dNil))))) (dtB (dOp (oIn true) (dC (.str "a")) (dCall s__law_names (dCons (dVar 11) (dNil)))))) (dAsg (dTup (dCons (dC (.str "sub")) (dCons (dC (.str "b")) (dCons (dC (.str "a")) (dNil))))) (.nm 11)) (dNext)) (b_bk4 s__law_take s__law_formula s__law_names s__law_size)
def b_bk2 (s__law_take s__law_formula s__law_names s__law_size : DSp) : DS := dSeq (dIf (dtAnd (dtB (dOp oEq (dL oLen (dCons (dVar 10) (dNil))) (dC (.int 2)))) (dtB (dOp oEq (dCall s__law_take (dCons (dVar 0) (dCons (dVar 1) (dCons (dC (.int 2)) (dNil))))) (dC (.int 0))))) (dAsg (dTup (dCons (dOp oIx (dLst (dCons (dC (.str "add")) (dCons (dC (.str "and")) (dCons (dC (.str "sub")) (dCons (dC (.str "xor")) (dNil)))))) (dCall s__law_take (dCons (dVar 0) (dCons (dVar 1) (dCons (dC (.int 4)) (dNil)))))) (dCons (dOp oIx (dVar 10) (dC (.int 0))) (dCons (dOp oIx (dVar 10) (dC (.int 1))) (dNil))))) (.nm 11)) (dNext)) (b_bk3 s__law_take s__law_formula s__law_names s__law_size)
def b_bk1 (s__law_take s__law_formula s__law_names s__law_size : DSp) : DS := dSeq (dAsg (dCall s__law_formula (dCons (dVar 0) (dCons (dVar 1) (dCons (dVar 10) (dCons (dVar 2) (dCons (dC (.int 2)) (dNil))))))) (.nm 11)) (b_bk2 s__law_take s__law_formula s__law_names s__law_size)
def b_bk0 (s__law_take s__law_formula s__law_names s__law_size : DSp) : DS := dSeq (dAsg (dOp oIx (dLst (dCons (dLst (dCons (dC (.str "k")) (dNil))) (dCons (dLst (dCons (dC (.str "a")) (dNil))) (dCons (dLst (dCons (dC (.str "a")) (dCons (dC (.str "b")) (dNil)))) (dCons (dLst (dCons (dC (.str "a")) (dCons (dC (.str "k")) (dNil)))) (dCons (dLst (dCons (dC (.str "a")) (dCons (dC (.str "b")) (dCons (dC (.str "k")) (dNil))))) (dCons (dLst (dNil)) (dNil)))))))) (dCall s__law_take (dCons (dVar 0) (dCons (dVar 1) (dCons (dC (.int 6)) (dNil)))))) (.nm 10)) (b_bk1 s__law_take s__law_formula s__law_names s__law_size)
def names6 : List Str := ["add", "x", "nand1", "shlk", "q7", "set"]
def kns : List (List Str) := [["k"], ["a"], ["a", "b"], ["a", "k"], ["a", "b", "k"], []]
/-- a formula that a deed may have -/
structure FmF (w : Nat) (f : D) : Prop where
  wf : wfD w abk f = true
  de : depthD f ≤ 2
theorem sz13 {w : Nat} {f : D} (h : FmF w f) : sizeD f ≤ 13 := Nat.le_trans (wf_szB 2 f h.wf h.de) (by decide)
theorem FmF.fm {w : Nat} {f : D} (h : FmF w f) : FmOk f := ⟨wf_tree _ h.wf, by have := h.de; omega, by have := sz13 h; omega⟩
structure DeedF (w : Nat) (d : Str × Nat × D) : Prop where
  pr : 1 ≤ d.2.1 ∧ d.2.1 ≤ 9
  fm : FmF w d.2.2
  sz : sizeD d.2.2 ≤ 9
  ba : hasB d.2.2 = true → hasA d.2.2 = true
/-- while the deeds are drawn -/
structure BkI (p c q8 : Addr) (M0 M : Mm) (L : List (Str × Nat × D)) : Prop where
  dw : Dw p c M0
  dr : Dr c M0 M
  q0 : M0 q8 = none
  m8 : M q8 = some (.lst (L.map deedD))
  ll : L.length ≤ 6
section
variable {p c q8 q4 : Addr} {M0 M : Mm} {L : List (Str × Nat × D)} {w r cnt base k : Nat} {x5 x10 x11 x12 : Option D} {D' : DEnds} {f : D}
theorem BkI.ext {M' : Mm} (h : BkI p c q8 M0 M L) (e : Ext M M') : BkI p c q8 M0 M' L := ⟨h.dw, h.dr.trans (.ofExt e), h.q0, e _ _ h.m8, h.ll⟩
theorem BkI.go {M' : Mm} (h : BkI p c q8 M0 M L) (d : Dr c M M') : BkI p c q8 M0 M' L := ⟨h.dw, h.dr.trans d, h.q0, d.ex _ _ (h.dw.cne h.q0) h.m8, h.ll⟩
theorem BkI.now (h : BkI p c q8 M0 M L) : Dw p c M := h.dw.go h.dr
abbrev BkE (p c q8 q4 : Addr) (w r cnt base k : Nat) (x5 x10 x11 x12 : Option D) : DEnv := [some (.ref p), some (.ref c), some (.int w), some (.int r), some (.ref q4), x5, some (.int cnt), some (.int base), some (.ref q8), some (.int k), x10, x11, x12]
/-- what is wanted behind the turn -/
abbrev BkK (p c q8 q4 : Addr) (M0 : Mm) (L : List (Str × Nat × D)) (w r cnt base k : Nat) (x5 : Option D) (D' : DEnds) : Prop := ∀ M' d x10 x11 x12, BkI p c q8 M0 M' L → DeedF w d → d.1 = names6.getD ((k + base) % 6) "" → ∀ M2, M2 = updM M' q8 (.lst ((L ++ [d]).map deedD)) → D'.nx (BkE p c q8 q4 w r cnt base k x5 x10 x11 x12) M2
theorem t_bk7 (I : BkI p c q8 M0 M L) (ff : FmF w f) (hs : sizeD f ≤ 9) (hba : hasB f = true → hasA f = true) (K : BkK p c q8 q4 M0 L w r cnt base k x5 D') :
    b_bk7 sp_take (sp_formula 4) (sp_lnames2 8) (sp_lsize 8) D' (BkE p c q8 q4 w r cnt base k x5 x10 (some f) (some (.str (names6.getD ((k + base) % 6) "")))) M := by
  refine ⟨⟨_, I.m8⟩, p, c, 3, rfl, by decide, I.now, fun r1 hr1 M1 d1 => ?_⟩
  have I1 := I.go d1
  refine ⟨p, c, 5, rfl, by decide, I1.now, fun r2 hr2 M2 d2 => ?_⟩
  have I2 := I1.go d2
  have hm : r1 * r2 ≤ 2 * 4 := Nat.mul_le_mul (by omega) (by omega)
  refine ⟨.inl ⟨by omega, by omega⟩, ?_⟩
  have ep : (1 : Int) + (r1 : Int) * (r2 : Int) = ((1 + r1 * r2 : Nat) : Int) := by push_cast; rfl
  have ll := I.ll
  refine ⟨by show 3 ≤ sizeLine; decide, _, I2.m8, tolist (by rw [List.length_map]; omega), ?_⟩
  refine K M2 (names6.getD ((k + base) % 6) "", 1 + r1 * r2, f) _ _ _ I2 ⟨⟨by show 1 ≤ 1 + r1 * r2; omega, by show 1 + r1 * r2 ≤ 9; omega⟩, ff, hs, hba⟩ rfl _ ?_
  rw [List.map_append]
  show updM M2 q8 (.lst (L.map deedD ++ [.tup [.str (names6.getD ((k + base) % 6) ""), .int (1 + (r1 : Int) * (r2 : Int)), f]])) = _
  rw [ep]
  rfl
theorem six_names : ∀ i : Fin 6, (names6.map D.str)[i.1]? = some (.str (names6.getD i.1 "")) := fun i => match i with
  | ⟨0, _⟩ => rfl
  | ⟨1, _⟩ => rfl
  | ⟨2, _⟩ => rfl
  | ⟨3, _⟩ => rfl
  | ⟨4, _⟩ => rfl
  | ⟨5, _⟩ => rfl
theorem t_bk6 (I : BkI p c q8 M0 M L) (ff : FmF w f) (hs : sizeD f ≤ 9) (hba : hasB f = true → hasA f = true) (K : BkK p c q8 q4 M0 L w r cnt base k x5 D') :
    b_bk6 sp_take (sp_formula 4) (sp_lnames2 8) (sp_lsize 8) D' (BkE p c q8 q4 w r cnt base k x5 x10 (some f) x12) M := by
  refine ⟨by show 6 ≤ sizeLine; decide, fun q hq => ?_⟩
  have xq : Ext M (updM M q (.lst (names6.map .str))) := Ext.new hq
  refine ⟨by show (0 : Int) < 6; decide, ?_⟩
  have hm : (k + base) % 6 < 6 := Nat.mod_lt _ (by decide)
  have em : ((k : Int) + (base : Int)) % 6 = (((k + base) % 6 : Nat) : Int) := by omega
  refine .inl ⟨names6.map .str, _, .str (names6.getD ((k + base) % 6) ""), updM_same, rfl, ?_, ?_⟩
  · rw [em]; exact atI_nat (six_names ⟨_, hm⟩)
  · exact t_bk7 (I.ext xq) ff hs hba K
theorem in_names (s : Str) (f : D) (neg : Bool) {M2 : Mm} {q : Addr} {Q : DQ} (h : M2 q = some (.lst ((lnamesD f).map D.str))) (k : Q (.bl (if neg then !decide (s ∈ namesD f) else decide (s ∈ namesD f))) M2) : oIn neg (.str s) (.ref q) M2 Q := by
  refine .inl ⟨_, h, rfl, flat_strs _, ?_⟩
  rw [inD_strs, decide_eq_decide.mpr (mem_lnames s f).symm]
  exact k
/-- the test: "b" is a name and "a" is none -/
theorem ba_test {E : DEnv} {Q : Bool → Mm → Prop} (hE : E[11]? = some (some f)) (fo : FmOk f) (h : ∀ M', Ext M M' → Q (hasB f && !hasA f) M') :
    dtAnd (dtB (dOp (oIn false) (dC (.str "b")) (dCall (sp_lnames2 8) (dCons (dVar 11) (dNil))))) (dtB (dOp (oIn true) (dC (.str "a")) (dCall (sp_lnames2 8) (dCons (dVar 11) (dNil))))) E M Q := by
  have hv : ∀ (M : Mm) (Q : DQ), Q f M → dVar 11 E M Q := fun M Q q => by unfold dVar; rw [hE]; exact q
  have one : ∀ (s : Str) (neg : Bool) (M : Mm) (Q : DQ), (∀ M', Ext M M' → Q (.bl (if neg then !decide (s ∈ namesD f) else decide (s ∈ namesD f))) M') → dOp (oIn neg) (dC (.str s)) (dCall (sp_lnames2 8) (dCons (dVar 11) (dNil))) E M Q := fun s neg M Q q => by
    show dVar 11 E M _
    refine hv M _ ?_
    exact ⟨f, rfl, fo.tr, by have := fo.de; omega, fo.sz, fun pn M1 hpn x1 hm => in_names s f neg hm (q M1 x1)⟩
  refine one "b" false M _ fun M1 x1 => ?_
  refine ⟨fun hb => ?_, fun hb => ?_⟩
  · have hb : hasB f = true := hb
    refine one "a" true M1 _ fun M2 x2 => ?_
    have := h M2 (x1.trans x2)
    rw [hb, Bool.true_and] at this
    exact this
  · have hb : hasB f = false := hb
    have := h M1 x1
    rw [hb, Bool.false_and] at this
    exact this
theorem wf1 {w : Nat} {o : Op} {x : D} (h1 : o.ar = 1) (hx : wfD w abk x = true) : wfD w abk (.tup [.str o.nm, x]) = true := by
  simp only [wfD, opOf_of, wfDs, hx, h1, Bool.and_true]
  rfl
theorem wf2 {w : Nat} {o : Op} {x y : D} (h2 : o.ar = 2) (hx : wfD w abk x = true) (hy : wfD w abk y = true) : wfD w abk (.tup [.str o.nm, x, y]) = true := by
  simp only [wfD, opOf_of, wfDs, hx, hy, h2, Bool.and_true]
  rfl
theorem wfa {w : Nat} {s : Str} (h : s ∈ abk) : wfD w abk (.str s) = true := by simp only [wfD]; exact decide_eq_true h
theorem two_depth (o x y : D) : depthD (.tup [o, x, y]) = max (depthD x) (max (depthD y) 0) + 1 := by simp only [depthD, depthDs]
theorem size_test {E : DEnv} {Q : Bool → Mm → Prop} (hE : E[11]? = some (some f)) (ff : FmF w f) (h : ∀ M', Ext M M' → Q (decide (9 < sizeD f)) M') :
    dtB (dOp oGt (dCall (sp_lsize 8) (dCons (dVar 11) (dNil))) (dC (.int 9))) E M Q := by
  have hv : ∀ (M : Mm) (Q : DQ), Q f M → dVar 11 E M Q := fun M Q q => by unfold dVar; rw [hE]; exact q
  show dVar 11 E M _
  refine hv M _ ?_
  refine ⟨f, w, abk, rfl, ff.wf, by have := ff.de; omega, fun M1 x1 => ?_⟩
  have := h M1 x1
  have e : decide ((9 : Int) < ((sizeD f : Nat) : Int)) = decide (9 < sizeD f) := by rw [decide_eq_decide]; omega
  show Q (decide ((9 : Int) < ((sizeD f : Nat) : Int))) M1
  rw [e]; exact this
theorem t_bk5 (I : BkI p c q8 M0 M L) (ff : FmF w f) (K : BkK p c q8 q4 M0 L w r cnt base k x5 D') :
    b_bk5 sp_take (sp_formula 4) (sp_lnames2 8) (sp_lsize 8) D' (BkE p c q8 q4 w r cnt base k x5 x10 (some f) x12) M := by
  have neg : ∀ M', Ext M M' → (dAsg (dTup (dCons (dC (.str "neg")) (dCons (dC (.str "a")) (dNil)))) (.nm 11) : DS) { D' with nx := b_bk6 sp_take (sp_formula 4) (sp_lnames2 8) (sp_lsize 8) D' } (BkE p c q8 q4 w r cnt base k x5 x10 (some f) x12) M' := fun M' x =>
    ⟨by show 2 ≤ sizeLine; decide, t_bk6 (I.ext x) ⟨wf1 (o := .neg) rfl (wfa (by decide)), by decide⟩ (by decide) (fun h => absurd h (by decide)) K⟩
  unfold b_bk5 dSeq dIf dtOr
  refine size_test rfl ff fun M1 x1 => ⟨fun hb => ⟨fun _ => neg M1 x1, fun hc => absurd hc (by decide)⟩, fun hb => ?_⟩
  have hb : ¬ 9 < sizeD f := of_decide_eq_false hb
  refine ba_test rfl ff.fm fun M2 x2 => ⟨fun _ => neg M2 (x1.trans x2), fun hc => ?_⟩
  refine t_bk6 (I.ext (x1.trans x2)) ff (by omega) (fun h => ?_) K
  rw [h, Bool.true_and] at hc
  simpa using hc
theorem t_bk4 (I : BkI p c q8 M0 M L) (ff : FmF w f) (K : BkK p c q8 q4 M0 L w r cnt base k x5 D') :
    b_bk4 sp_take (sp_formula 4) (sp_lnames2 8) (sp_lsize 8) D' (BkE p c q8 q4 w r cnt base k x5 x10 (some f) x12) M := by
  unfold b_bk4 dSeq dIf
  refine size_test rfl ff fun M1 x1 => ⟨fun hb => ?_, fun _ => t_bk5 (I.ext x1) ff K⟩
  have hb : 9 < sizeD f := of_decide_eq_true hb
  cases f with
  | tup ds =>
    obtain ⟨o, t, rfl, hl, ht, _⟩ := op_inv ff.wf
    have har := ar3 o
    match t, hl, ht, ff with
    | [], hl, _, _ => simp at hl; omega
    | x :: t, hl, ht, ff =>
      have hx := ht x (by simp)
      have hdx : depthD x ≤ 1 := by
        have := ff.de
        rw [depthD_tup] at this
        have h2 : depthDs (x :: t) + 1 ≤ 2 := this
        simp only [depthDs] at h2; omega
      refine ⟨x, atI_nat (j := 1) rfl, by show 3 ≤ sizeLine; decide, ?_⟩
      refine t_bk5 (I.ext x1) ⟨wf2 (o := .xor) rfl hx (wfa (by decide)), ?_⟩ K
      rw [two_depth]
      show max (depthD x) (max 0 0) + 1 ≤ 2
      omega
  | int i => simp [sizeD] at hb
  | str i => simp [sizeD] at hb
  | non => simp [sizeD] at hb
  | bl i => simp [sizeD] at hb
  | ref i => simp [sizeD] at hb
  | ty i => simp [sizeD] at hb
  | kd i => simp [sizeD] at hb
  | fl i => simp [sizeD] at hb
theorem t_bk3 (I : BkI p c q8 M0 M L) (ff : FmF w f) (K : BkK p c q8 q4 M0 L w r cnt base k x5 D') :
    b_bk3 sp_take (sp_formula 4) (sp_lnames2 8) (sp_lsize 8) D' (BkE p c q8 q4 w r cnt base k x5 x10 (some f) x12) M := by
  unfold b_bk3 dSeq dIf
  refine ba_test rfl ff.fm fun M1 x1 => ⟨fun _ => ?_, fun _ => t_bk4 (I.ext x1) ff K⟩
  exact ⟨by show 3 ≤ sizeLine; decide, t_bk4 (I.ext x1) ⟨wf2 (o := .sub) rfl (wfa (by decide)) (wfa (by decide)), by decide⟩ K⟩
theorem four_ops : ∀ i : Fin 4, ∃ o : Op, o.ar = 2 ∧ ([.str "add", .str "and", .str "sub", .str "xor"] : List D)[i.1]? = some (.str o.nm) := fun i => match i with
  | ⟨0, _⟩ => ⟨.add, rfl, rfl⟩
  | ⟨1, _⟩ => ⟨.and, rfl, rfl⟩
  | ⟨2, _⟩ => ⟨.sub, rfl, rfl⟩
  | ⟨3, _⟩ => ⟨.xor, rfl, rfl⟩
theorem kn_two {kn : List Str} (h : kn ∈ kns) (h2 : kn.length = 2) : ∃ x y, kn = [x, y] ∧ x ∈ abk ∧ y ∈ abk := by
  unfold kns at h
  simp only [List.mem_cons, List.not_mem_nil, or_false] at h
  rcases h with rfl | rfl | rfl | rfl | rfl | rfl
  · simp at h2
  · simp at h2
  · exact ⟨_, _, rfl, by decide, by decide⟩
  · exact ⟨_, _, rfl, by decide, by decide⟩
  · simp at h2
  · simp at h2
theorem kn_sub {kn : List Str} (h : kn ∈ kns) : ∀ s ∈ kn, s ∈ abk := by
  have : ∀ kn ∈ kns, ∀ s ∈ kn, s ∈ abk := by decide
  exact this kn h
theorem t_bk2 {q10 : Addr} {kn : List Str} (I : BkI p c q8 M0 M L) (ff : FmF w f) (hkn : kn ∈ kns) (hk : M q10 = some (.lst (kn.map .str))) (hkc : q10 ≠ c) (K : BkK p c q8 q4 M0 L w r cnt base k x5 D') :
    b_bk2 sp_take (sp_formula 4) (sp_lnames2 8) (sp_lsize 8) D' (BkE p c q8 q4 w r cnt base k x5 (some (.ref q10)) (some f) x12) M := by
  refine .inl ⟨_, hk, fun hb => ?_, fun hb => ?_⟩
  · have hb : decide ((((kn.map D.str).length : Nat) : Int) = 2) = true := hb
    rw [List.length_map] at hb
    have h2 : kn.length = 2 := by have := of_decide_eq_true hb; omega
    obtain ⟨x, y, rfl, hx, hy⟩ := kn_two hkn h2
    refine ⟨p, c, 2, rfl, by decide, I.now, fun r1 hr1 M1 d1 => ⟨fun _ => ?_, fun _ => t_bk3 (I.go d1) ff K⟩⟩
    have I1 := I.go d1
    have hk1 := d1.ex _ _ hkc hk
    refine ⟨by show 4 ≤ sizeLine; decide, fun q hq => ?_⟩
    have xq : Ext M1 (updM M1 q (.lst [.str "add", .str "and", .str "sub", .str "xor"])) := Ext.new hq
    have qm : updM M1 q (.lst [.str "add", .str "and", .str "sub", .str "xor"]) q = some (.lst [.str "add", .str "and", .str "sub", .str "xor"]) := updM_same
    have hqc := I1.now.cne hq
    generalize updM M1 q (.lst [.str "add", .str "and", .str "sub", .str "xor"]) = M2 at xq qm ⊢
    have I2 := I1.ext xq
    refine ⟨p, c, 4, rfl, by decide, I2.now, fun r2 hr2 M3 d3 => ?_⟩
    have I3 := I2.go d3
    obtain ⟨o, ho, hat⟩ := four_ops ⟨r2, hr2⟩
    have hk3 := d3.ex _ _ hkc (xq _ _ hk1)
    refine .inl ⟨_, _, .str o.nm, d3.ex _ _ hqc qm, rfl, atI_nat hat, ?_⟩
    refine .inl ⟨_, _, .str x, hk3, rfl, at0, .inl ⟨_, _, .str y, hk3, rfl, rfl, by show 3 ≤ sizeLine; decide, ?_⟩⟩
    refine t_bk3 I3 ⟨wf2 ho (wfa hx) (wfa hy), ?_⟩ K
    rw [two_depth]
    show max 0 (max 0 0) + 1 ≤ 2
    omega
  · exact ⟨fun hc => absurd hc (by decide), fun _ => t_bk3 I ff K⟩
theorem t_bk1 {q10 : Addr} {kn : List Str} (hw : 1 ≤ w) (hw4 : w ≤ 4) (I : BkI p c q8 M0 M L) (hkn : kn ∈ kns) (hk : M q10 = some (.lst (kn.map .str))) (hkc : q10 ≠ c) (K : BkK p c q8 q4 M0 L w r cnt base k x5 D') :
    b_bk1 sp_take (sp_formula 4) (sp_lnames2 8) (sp_lsize 8) D' (BkE p c q8 q4 w r cnt base k x5 (some (.ref q10)) x11 x12) M := by
  refine ⟨p, c, q10, w, 2, kn, rfl, by decide, hw, hw4, I.now, hkc, hk, fun f hf hd M1 d1 => ?_⟩
  exact t_bk2 (I.go d1) ⟨wf_own _ hf fun s hs => kn_sub hkn s (wf_lnames _ hf s hs), hd⟩ hkn (d1.ex _ _ hkc hk) hkc K
theorem t_bk0 (hw : 1 ≤ w) (hw4 : w ≤ 4) (I : BkI p c q8 M0 M L) (K : BkK p c q8 q4 M0 L w r cnt base k x5 D') :
    b_bk0 sp_take (sp_formula 4) (sp_lnames2 8) (sp_lsize 8) D' (BkE p c q8 q4 w r cnt base k x5 x10 x11 x12) M := by
  refine ⟨by show 1 ≤ sizeLine; decide, fun q0 h0 => ?_⟩
  refine ⟨by show 1 ≤ sizeLine; decide, fun q1 h1 => ?_⟩
  refine ⟨by show 2 ≤ sizeLine; decide, fun q2 h2 => ?_⟩
  refine ⟨by show 2 ≤ sizeLine; decide, fun q3 h3 => ?_⟩
  refine ⟨by show 3 ≤ sizeLine; decide, fun q5 h5 => ?_⟩
  refine ⟨by show 0 ≤ sizeLine; decide, fun q6 h6 => ?_⟩
  refine ⟨by show 6 ≤ sizeLine; decide, fun q7 h7 => ?_⟩
  have e0 := Ext.new (o := .lst [.str "k"]) h0
  have e1 := Ext.new (o := .lst [.str "a"]) h1
  have e2 := Ext.new (o := .lst [.str "a", .str "b"]) h2
  have e3 := Ext.new (o := .lst [.str "a", .str "k"]) h3
  have e5 := Ext.new (o := .lst [.str "a", .str "b", .str "k"]) h5
  have e6 := Ext.new (o := .lst []) h6
  have e7 := Ext.new (o := .lst [.ref q0, .ref q1, .ref q2, .ref q3, .ref q5, .ref q6]) h7
  have m6 := updM_same (M := updM (updM (updM (updM (updM M q0 (.lst [.str "k"])) q1 (.lst [.str "a"])) q2 (.lst [.str "a", .str "b"])) q3 (.lst [.str "a", .str "k"])) q5 (.lst [.str "a", .str "b", .str "k"])) (a := q6) (o := .lst [])
  have m5 := e6 _ _ (updM_same (M := updM (updM (updM (updM M q0 (.lst [.str "k"])) q1 (.lst [.str "a"])) q2 (.lst [.str "a", .str "b"])) q3 (.lst [.str "a", .str "k"])) (a := q5) (o := .lst [.str "a", .str "b", .str "k"]))
  have m3 := e6 _ _ (e5 _ _ (updM_same (M := updM (updM (updM M q0 (.lst [.str "k"])) q1 (.lst [.str "a"])) q2 (.lst [.str "a", .str "b"])) (a := q3) (o := .lst [.str "a", .str "k"])))
  have m2 := e6 _ _ (e5 _ _ (e3 _ _ (updM_same (M := updM (updM M q0 (.lst [.str "k"])) q1 (.lst [.str "a"])) (a := q2) (o := .lst [.str "a", .str "b"]))))
  have m1 := e6 _ _ (e5 _ _ (e3 _ _ (e2 _ _ (updM_same (M := updM M q0 (.lst [.str "k"])) (a := q1) (o := .lst [.str "a"])))))
  have m0 := e6 _ _ (e5 _ _ (e3 _ _ (e2 _ _ (e1 _ _ (updM_same (M := M) (a := q0) (o := .lst [.str "k"]))))))
  have xall := ((((e0.trans e1).trans e2).trans e3).trans e5).trans e6
  generalize updM (updM (updM (updM (updM (updM M q0 (.lst [.str "k"])) q1 (.lst [.str "a"])) q2 (.lst [.str "a", .str "b"])) q3 (.lst [.str "a", .str "k"])) q5 (.lst [.str "a", .str "b", .str "k"])) q6 (.lst []) = M6 at m0 m1 m2 m3 m5 m6 xall e7 h7 ⊢
  have I6 := I.ext xall
  have m7 : updM M6 q7 (.lst [.ref q0, .ref q1, .ref q2, .ref q3, .ref q5, .ref q6]) q7 = some (.lst [.ref q0, .ref q1, .ref q2, .ref q3, .ref q5, .ref q6]) := updM_same
  have I7 := I6.ext e7
  have h7c := I6.now.cne h7
  refine ⟨p, c, 6, rfl, by decide, I7.now, fun r1 hr1 M8 d8 => ?_⟩
  have I8 := I7.go d8
  have cn : ∀ q o, M6 q = some o → q ≠ c → M8 q = some o := fun q o h hc => d8.ex _ _ hc (e7 _ _ h)
  have nc : ∀ q, M q = none → q ≠ c := fun q h => I.now.cne h
  have b1 : M q1 = none := e0.back h1
  have b2 : M q2 = none := (e0.trans e1).back h2
  have b3 : M q3 = none := ((e0.trans e1).trans e2).back h3
  have b5 : M q5 = none := (((e0.trans e1).trans e2).trans e3).back h5
  have b6 : M q6 = none := ((((e0.trans e1).trans e2).trans e3).trans e5).back h6
  have : ∃ q kn, ([.ref q0, .ref q1, .ref q2, .ref q3, .ref q5, .ref q6] : List D)[r1]? = some (.ref q) ∧ M8 q = some (.lst (kn.map .str)) ∧ kn ∈ kns ∧ q ≠ c := by
    match r1, hr1 with
    | 0, _ => exact ⟨q0, ["k"], rfl, cn _ _ m0 (nc _ h0), by decide, nc _ h0⟩
    | 1, _ => exact ⟨q1, ["a"], rfl, cn _ _ m1 (nc _ b1), by decide, nc _ b1⟩
    | 2, _ => exact ⟨q2, ["a", "b"], rfl, cn _ _ m2 (nc _ b2), by decide, nc _ b2⟩
    | 3, _ => exact ⟨q3, ["a", "k"], rfl, cn _ _ m3 (nc _ b3), by decide, nc _ b3⟩
    | 4, _ => exact ⟨q5, ["a", "b", "k"], rfl, cn _ _ m5 (nc _ b5), by decide, nc _ b5⟩
    | 5, _ => exact ⟨q6, [], rfl, cn _ _ m6 (nc _ b6), by decide, nc _ b6⟩
  obtain ⟨q, kn, hat, hm, hkn, hqc⟩ := this
  refine .inl ⟨_, _, .ref q, d8.ex _ _ h7c m7, rfl, atI_nat hat, ?_⟩
  exact t_bk1 hw hw4 I8 hkn hm hqc K
end
end Rk

set_option Elab.async false
set_option linter.all false
set_option autoImplicit false
set_option maxRecDepth 100000
set_option maxHeartbeats 4000000
/-! readings for k88: a drawn book, the whole -/
namespace Rk
open PySem PySem.Spec PyProof.Rows L2 DH Bd Rd
local macro_rules | `(tactic| walk_at "if") => `(tactic| first | (refine ⟨fun _ => ?_, fun hc => absurd hc (by decide)⟩) | (refine ⟨fun hc => absurd hc (by decide), fun _ => ?_⟩))
def b_bkL (s__law_take s__law_formula s__law_names s__law_size : DSp) : DS := dSeq (dAsg (dCall s__law_take (dCons (dVar 0) (dCons (dVar 1) (dCons (dC (.int 6)) (dNil))))) (.nm 7)) (dSeq (dAsg (dLst (dNil)) (.nm 8)) (dSeq (dFor (dRng1 (dCons (dVar 6) (dNil))) (.nm 9) (b_bk0 s__law_take s__law_formula s__law_names s__law_size)) (dRet (dLst (dCons (dVar 2) (dCons (dVar 3) (dCons (dVar 4) (dCons (dVar 8) (dNil)))))))))
def b_bkM (s__law_take s__law_formula s__law_names s__law_size : DSp) : DS := dSeq (dAsg (dLc (dRng1 (dCons (dOp oShl (dC (.int 1)) (dVar 2)) (dNil))) (.nm 5) (dtB (dOp oEq (dCall s__law_take (dCons (dVar 0) (dCons (dVar 1) (dCons (dC (.int 3)) (dNil))))) (dC (.int 0)))) (dVar 5) [5]) (.nm 4)) (dSeq (dAsg (dSl (dVar 4) dNoPart (dPart (dC (.int 4)))) (.nm 4)) (dSeq (dAsg (dOp oAdd (dC (.int 1)) (dCall s__law_take (dCons (dVar 0) (dCons (dVar 1) (dCons (dC (.int 4)) (dNil)))))) (.nm 6)) (dSeq (dIf (dtB (dOp oEq (dCall s__law_take (dCons (dVar 0) (dCons (dVar 1) (dCons (dC (.int 8)) (dNil))))) (dC (.int 0)))) (dAsg (dC (.int 6)) (.nm 6)) (dNext)) (b_bkL s__law_take s__law_formula s__law_names s__law_size))))
/-- names that no drawn book has -/
structure NmZ (b : BK) : Prop where
  zz : b.find "zz" = none
  a9 : b.find "add9" = none
abbrev BookK (p c : Addr) (M : Mm) (Q : DQ) : Prop := ∀ (a aw ad : Addr) (b : BK) (M' : Mm), b.Ok → NmZ b → DaB M' a aw ad b → a ≠ c → aw ≠ c → ad ≠ c → Dr c M M' → Q (.ref a) M'
def nmsL (base n : Nat) : List Str := (List.range n).map fun k => names6.getD ((k + base) % 6) ""
theorem nms_ok : ∀ base : Fin 6, ∀ n : Fin 7, (nmsL base.1 n.1).Nodup ∧ ∀ s ∈ nmsL base.1 n.1, s ∈ names6 := by decide +kernel
theorem names6_ok : ∀ s ∈ names6, isNameS s = true ∧ s.length ≤ 1000 ∧ PyData.strOk s = true ∧ s ≠ "zz" ∧ s ≠ "add9" := by decide +kernel
structure WsOk (w : Nat) (ws : List Nat) : Prop where
  len : ws.length ≤ 16
  lt : ∀ x ∈ ws, x < 2 ^ w
  asc : ws.Pairwise (· < ·)
theorem r_bkL {p c q4 : Addr} {w r n : Nat} {z zr zn : Int} {ws : List Nat} {x5 : Option D} {M M1 : Mm} {Q : DQ} (hz : z = (w : Nat)) (hzr : zr = (r : Nat)) (hzn : zn = (n : Nat)) (w1 : 1 ≤ w) (w4 : w ≤ 4) (r1 : 1 ≤ r) (r4 : r ≤ 4) (bits : w * r ≤ 8) (n1 : 1 ≤ n) (n6 : n ≤ 6) (wo : WsOk w ws) (dw : Dw p c M) (dr : Dr c M M1) (q4c : q4 ≠ c) (hq4 : M1 q4 = some (.lst (wds ws)))
    (h : BookK p c M Q) : b_bkL sp_take (sp_formula 4) (sp_lnames2 8) (sp_lsize 8) (En Q) [some (.ref p), some (.ref c), some (.int z), some (.int zr), some (.ref q4), x5, some (.int zn), none, none, none, none, none, none] M1 := by
  subst hz hzr hzn
  have dw1 := dw.go dr
  refine ⟨p, c, 6, rfl, by decide, dw1, fun base hb M2 d2 => ?_⟩
  have dw2 := dw1.go d2
  refine ⟨by show 0 ≤ sizeLine; decide, fun q8 hq8 => ?_⟩
  have x8 : Ext M2 (updM M2 q8 (.lst [])) := Ext.new hq8
  have m8 : updM M2 q8 (.lst []) q8 = some (.lst []) := updM_same
  have q48 : M2 q4 = some (.lst (wds ws)) := d2.ex _ _ q4c hq4
  generalize updM M2 q8 (.lst []) = M3 at x8 m8 ⊢
  refine ⟨by omega, by omega, ?_⟩
  refine ⟨fun i E M' => ∃ L : List (Str × Nat × D), BkI p c q8 M2 M' L ∧ L.length = i ∧ L.map (·.1) = nmsL base i ∧ (∀ d ∈ L, DeedF w d) ∧ ∃ x9 x10 x11 x12 : Option D, E = [some (.ref p), some (.ref c), some (.int w), some (.int r), some (.ref q4), x5, some (.int n), some (.int base), some (.ref q8), x9, x10, x11, x12], ⟨[], ⟨dw2, .ofExt x8, hq8, m8, by show 0 ≤ 6; decide⟩, rfl, rfl, by simp, none, none, none, none, rfl⟩, fun _ _ _ _ => trivial, ?_, ?_⟩
  · rintro i E M' d0 hd ⟨L, I, hl, hn, hL, x9, x10, x11, x12, rfl⟩
    obtain ⟨hi, rfl⟩ := rng_at hd
    have hi : i < n := by have : i < (n : Int).toNat := hi; omega
    rw [Int.zero_add]
    refine t_bk0 (q4 := q4) (r := r) (cnt := n) (base := base) (k := i) (x5 := x5) w1 w4 I fun M4 d y10 y11 y12 I4 df hdn M5 e5 => ?_
    subst e5
    refine ⟨L ++ [d], ⟨I4.dw, I4.dr.mut dw2.cur hq8, hq8, updM_same, by rw [List.length_append, hl]; show i + 1 ≤ 6; omega⟩, by rw [List.length_append, hl]; rfl, ?_, ?_, _, _, _, _, rfl⟩
    · rw [List.map_append, hn]
      show nmsL base i ++ [d.1] = nmsL base (i + 1)
      unfold nmsL
      rw [List.range_succ, List.map_append, hdn]; rfl
    · intro e he
      rcases List.mem_append.mp he with he | he
      · exact hL e he
      · cases List.mem_singleton.mp he; exact df
  · rintro E M' ⟨L, I, hl, hn, hL, x9, x10, x11, x12, rfl⟩
    rw [rng_len, show ((n : Nat) : Int).toNat = n by omega] at hl hn
    have hn6 := nms_ok ⟨base, hb⟩ ⟨n, by omega⟩
    refine ⟨by show 4 ≤ sizeLine; decide, fun a ha => ?_⟩
    have xa : Ext M' (updM M' a (.lst [.int w, .int r, .ref q4, .ref q8])) := Ext.new ha
    have memN : ∀ d ∈ L, d.1 ∈ names6 := fun d hd => hn6.2 d.1 (by show d.1 ∈ nmsL base n; rw [← hn]; exact List.mem_map.mpr ⟨d, hd, rfl⟩)
    have nof : ∀ s : Str, (∀ t ∈ names6, t ≠ s) → (BK.mk w r ws L).find s = none := fun s hs => by
      rw [BK.find_eq, List.find?_eq_none]
      intro d hd
      have := hs d.1 (memN d hd)
      unfold nmIs
      simpa using this
    refine h a q4 q8 ⟨w, r, ws, L⟩ _ ⟨w1, w4, r1, r4, bits, wo.len, wo.lt, wo.asc, by show 1 ≤ L.length; omega, by show L.length ≤ 6; omega, by show (L.map (·.1)).Nodup; rw [hn]; exact hn6.1, fun d hd => ?_, fun d hd => (hL d hd).pr, fun d hd => ?_, fun d hd => (hL d hd).ba⟩ ⟨nof _ fun t ht => (names6_ok t ht).2.2.2.1, nof _ fun t ht => (names6_ok t ht).2.2.2.2⟩ ⟨updM_same, xa _ _ (I.dr.ex _ _ q4c q48), xa _ _ I.m8⟩ (I.now.cne ha) q4c (dw2.cne hq8) (dr.trans (d2.trans (I.dr.trans (.ofExt xa))))
    · have := names6_ok d.1 (memN d hd)
      exact ⟨this.1, this.2.1, this.2.2.1⟩
    · have := hL d hd
      exact ⟨this.fm.wf, by have := this.fm.de; omega, this.sz⟩
theorem r_bkM {p c : Addr} {w r : Nat} {z zr : Int} {M M1 : Mm} {Q : DQ} (hz : z = (w : Nat)) (hzr : zr = (r : Nat)) (w1 : 1 ≤ w) (w4 : w ≤ 4) (r1 : 1 ≤ r) (r4 : r ≤ 4) (bits : w * r ≤ 8) (dw : Dw p c M) (dr : Dr c M M1)
    (h : BookK p c M Q) : b_bkM sp_take (sp_formula 4) (sp_lnames2 8) (sp_lsize 8) (En Q) [some (.ref p), some (.ref c), some (.int z), some (.int zr), none, none, none, none, none, none, none, none, none] M1 := by
  subst hz hzr
  have dw1 := dw.go dr
  obtain ⟨N, hN, hpow, pb⟩ : ∃ N : Nat, 2 ^ w = N ∧ (1 : Int) * 2 ^ ((w : Int)).toNat = (N : Int) ∧ N ≤ 16 := ⟨_, rfl, pow_cast w, by
    have : ∀ w : Fin 5, 2 ^ w.1 ≤ 16 := by decide
    exact this ⟨w, by omega⟩⟩
  refine ⟨cpow w (by omega) (by decide), ?_⟩
  refine ⟨by rw [hpow]; omega, by rw [hpow]; omega, fun q hq => ?_⟩
  rw [hpow]
  have hqc := dw1.cne hq
  refine ⟨fun i acc M' => Dr c M1 M' ∧ M' q = some (.lst acc) ∧ ∃ ws : List Nat, acc = wds ws ∧ ws.length ≤ i ∧ (∀ x ∈ ws, x < i) ∧ ws.Pairwise (· < ·), ⟨.new hq, updM_same, [], rfl, Nat.le_refl _, by simp, .nil⟩, fun _ _ _ _ => trivial, ?_, ?_⟩
  · rintro i acc M' d0 hd ⟨hx, hm, ws, rfl, hl, hlt, hasc⟩
    obtain ⟨hi, rfl⟩ := rng_at hd
    have hi : i < N := by have : i < (N : Int).toNat := hi; omega
    rw [Int.zero_add]
    refine ⟨p, c, 3, rfl, by decide, dw1.go hx, fun r3 hr3 M2 d2 => ⟨fun _ => ?_, fun _ => ?_⟩⟩
    · refine ⟨d2.ex _ _ hqc hm, tolist (by rw [wds_len]; omega), (hx.trans d2).mut dw1.cur hq, updM_same, ws ++ [i], (wds_snoc ws i).symm, by rw [List.length_append]; show ws.length + 1 ≤ i + 1; omega, fun x hx => ?_, ?_⟩
      · rcases List.mem_append.mp hx with hx | hx
        · have := hlt x hx; omega
        · cases List.mem_singleton.mp hx; omega
      · rw [List.pairwise_append]
        exact ⟨hasc, List.pairwise_singleton _ _, fun x hx y hy => by cases List.mem_singleton.mp hy; exact hlt x hx⟩
    · exact ⟨hx.trans d2, d2.ex _ _ hqc hm, ws, rfl, by omega, fun x hx => by have := hlt x hx; omega, hasc⟩
  · rintro acc M2 ⟨hx, hm, ws, rfl, hl, hlt, hasc⟩
    rw [rng_len, show (N : Int).toNat = N by omega] at hl hlt
    refine ⟨_, hm, fun q4 hq4 => ?_⟩
    have ec : cutL D (wds ws) none (some (4 : Int)) = wds (ws.take 4) := by
      by_cases h4 : 4 ≤ ws.length
      · have := cutTo D (wds ws) 4 (by rw [wds_len]; exact h4)
        rw [show ((4 : Nat) : Int) = 4 from rfl] at this
        rw [this]
        unfold wds
        rw [List.map_take]
      · unfold cutL
        have e1 : HT.sIx (wds ws).length (wds ws).length (some (4 : Int)) = ws.length := by
          show (if (4 : Int) < 0 then ((4 : Int) + ((wds ws).length : Int)).toNat else min (4 : Int).toNat (wds ws).length) = ws.length
          rw [if_neg (by decide), wds_len]
          show min 4 ws.length = _
          omega
        have e0 : HT.sIx (wds ws).length 0 none = 0 := rfl
        rw [e1, e0, List.drop_zero, List.take_of_length_le (by rw [wds_len]; omega), List.take_of_length_le (show ws.length ≤ 4 by omega)]
    rw [show cutL D (wds ws) none (some (4 : Int)) = wds (ws.take 4) from ec]
    have x4 : Ext M2 (updM M2 q4 (.lst (wds (ws.take 4)))) := Ext.new hq4
    have m4 : updM M2 q4 (.lst (wds (ws.take 4))) q4 = some (.lst (wds (ws.take 4))) := updM_same
    have dw2 := dw1.go hx
    have q4c := dw2.cne hq4
    generalize updM M2 q4 (.lst (wds (ws.take 4))) = M3 at x4 m4 ⊢
    have wo : WsOk w (ws.take 4) := ⟨by rw [List.length_take]; omega, fun x hx => by rw [hN]; exact hlt x (List.mem_of_mem_take hx), hasc.sublist (List.take_sublist _ _)⟩
    have dr3 : Dr c M M3 := dr.trans (hx.trans (.ofExt x4))
    have dw3 := dw.go dr3
    refine ⟨p, c, 4, rfl, by decide, dw3, fun rc hrc M4 d4 => ?_⟩
    have dw4 := dw3.go d4
    refine ⟨p, c, 8, rfl, by decide, dw4, fun r8 hr8 M5 d5 => ⟨fun _ => ?_, fun _ => ?_⟩⟩
    · exact r_bkL (n := 6) (zn := 6) rfl rfl rfl w1 w4 r1 r4 bits (by decide) (by decide) wo dw (dr3.trans (d4.trans d5)) q4c ((d4.trans d5).ex _ _ q4c m4) h
    · exact r_bkL (n := 1 + rc) rfl rfl (by push_cast; rfl) w1 w4 r1 r4 bits (by omega) (by omega) wo dw (dr3.trans (d4.trans d5)) q4c ((d4.trans d5).ex _ _ q4c m4) h
def sp_lbook : DSp := fun ds M Q _ => ∃ p c : Addr, ds = [.ref p, .ref c] ∧ Dw p c M ∧ BookK p c M Q
theorem reg_most : ∀ w : Fin 5, 1 ≤ w.1 → ∃ m : Fin 5, 1 ≤ m.1 ∧ (if (8 : Int) / ((w.1 : Nat) : Int) < 4 then (8 : Int) / ((w.1 : Nat) : Int) else 4) = ((m.1 : Nat) : Int) ∧ w.1 * m.1 ≤ 8 := by decide
theorem r__law_book : ∀ ds M Q E, sp_lbook ds M Q E → b__law_book sp_take (sp_formula 4) (sp_lnames2 8) (sp_lsize 8) (En Q) (startD 13 ds) M := by
  rintro ds M Q E ⟨p, c, rfl, dw, h⟩
  refine ⟨p, c, 4, rfl, by decide, dw, fun r0 hr0 M1 d1 => ?_⟩
  have dw1 := dw.go d1
  obtain ⟨m, hm1, hm2, hm3⟩ := reg_most ⟨1 + r0, by omega⟩ (by show 1 ≤ 1 + r0; omega)
  have ew : (1 : Int) + (r0 : Int) = ((1 + r0 : Nat) : Int) := by push_cast; rfl
  refine ⟨cdiv (r := 1 + r0) (by omega) (by omega) |> fun z => by rw [← ew] at z; exact z, ?_⟩
  refine ⟨p, c, m.1, ?_, hm1, dw1, fun r1 hr1 M2 d2 => ?_⟩
  · show [_, _, D.int (if (8 : Int) / (1 + (r0 : Int)) < 4 then (8 : Int) / (1 + (r0 : Int)) else 4)] = _
    rw [ew, hm2]
  · have hwm : (1 + r0) * (1 + r1) ≤ (1 + r0) * m.1 := Nat.mul_le_mul_left _ (by omega)
    have hm3 : (1 + r0) * m.1 ≤ 8 := hm3
    exact r_bkM (w := 1 + r0) (r := 1 + r1) ew (by push_cast; rfl) (by omega) (by omega) (by omega) (by have := m.2; omega) (by omega) dw (d1.trans d2) h
end Rk

set_option Elab.async false
set_option linter.all false
set_option autoImplicit false
set_option maxRecDepth 100000
set_option maxHeartbeats 4000000
/-! readings for k88: the book is asked -/
namespace Rk
open PySem PySem.Spec PyProof.Rows L2 DH Bd Rd
local macro_rules | `(tactic| walk_at "if") => `(tactic| first | (refine ⟨fun _ => ?_, fun hc => absurd hc (by decide)⟩) | (refine ⟨fun hc => absurd hc (by decide), fun _ => ?_⟩))
theorem vw_list {M : Mm} {a : Addr} {n : Nat} {ds : List D} (h : M a = some (.lst ds)) (hd : ∀ d ∈ ds, OkD n d) : Vw M (.ref a) (.list (toPDs ds)) := by
  obtain ⟨h1, _, _⟩ := ok_list hd
  obtain ⟨h2, h3⟩ := vw_pures (M := M) ds h1
  exact .lst _ h h2 h3
theorem list_shaped {n : Nat} {ds : List D} (hn : n ≤ 60) (hd : ∀ d ∈ ds, OkD n d) : (PyData.list (toPDs ds)).canLay0 = true ∧ SeqAt.shaped (PyData.list (toPDs ds)) = true := by
  obtain ⟨_, c1, e1⟩ := ok_list hd
  have cl : (PyData.list (toPDs ds)).canLay0 = true := by simp only [PyData.canLay0, c1]
  refine ⟨cl, ?_⟩
  unfold SeqAt.shaped
  rw [cl, Bool.true_and, decide_eq_true_eq]
  simp only [PyData.depth]
  omega
theorem ne_lists {M : Mm} {a b : Addr} {n : Nat} {ds : List D} {Q : DQ} (ha : M a = some (.lst ds)) (hb : M b = some (.lst ds)) (hd : ∀ d ∈ ds, OkD n d) (hn : n ≤ 60) (q : Q (.bl false) M) : oNe (.ref a) (.ref b) M Q := by
  obtain ⟨s0, s1⟩ := list_shaped hn hd
  refine ⟨_, _, vw_list ha hd, vw_list hb hd, s1, s1, ?_⟩
  rw [SeqAt.eqv_refl _ s0]; exact q
theorem eq_lists {M : Mm} {a b : Addr} {n : Nat} {ds : List D} {Q : DQ} (ha : M a = some (.lst ds)) (hb : M b = some (.lst ds)) (hd : ∀ d ∈ ds, OkD n d) (hn : n ≤ 60) (q : Q (.bl true) M) : oEq (.ref a) (.ref b) M Q := by
  obtain ⟨s0, s1⟩ := list_shaped hn hd
  refine .inl ⟨_, _, vw_list ha hd, vw_list hb hd, s1, s1, ?_⟩
  rw [SeqAt.eqv_refl _ s0]; exact q
theorem tB_op {E : DEnv} {i j : Nat} {x y : D} {o : D2} {M : Mm} {Q : Bool → Mm → Prop} (hi : E[i]? = some (some x)) (hj : E[j]? = some (some y)) (h : o x y M fun d M1 => match d with
    | .bl b => Q b M1
    | _ => False) : dtB (dOp o (dVar i) (dVar j)) E M Q := by
  unfold dtB dOp dVar
  rw [hi]
  simp only [hj]
  exact h
theorem E_op {E : DEnv} {i j : Nat} {x y : D} {o : D2} {M : Mm} {Q : DQ} (hi : E[i]? = some (some x)) (hj : E[j]? = some (some y)) (h : o x y M Q) : dOp o (dVar i) (dVar j) E M Q := by
  unfold dOp dVar
  rw [hi]
  simp only [hj]
  exact h
theorem v_op {E : DEnv} {j : Nat} {x y : D} {o : D2} {M : Mm} {Q : DQ} (hj : E[j]? = some (some y)) (h : o x y M Q) : dVar j E M fun y M2 => o x y M2 Q := by
  unfold dVar
  rw [hj]; exact h
theorem ok_non (n : Nat) : OkD n .non := ⟨rfl, rfl, Nat.zero_le _⟩
theorem ok_step {s : ST} (h : PyData.strOk s.nm = true) : OkD 3 (stD s) := ok_tup fun d hd => by
  simp only [List.mem_cons, List.not_mem_nil, or_false] at hd
  rcases hd with rfl | rfl | rfl | rfl
  · exact ok_str h _
  · exact (ok_tup (n := 0) fun e he => by obtain ⟨x, _, rfl⟩ := List.mem_map.mp he; exact ok_int _ _).mono (by decide)
  · cases s.wd with
    | none => exact ok_non _
    | some v => exact ok_int _ _
  · exact ok_int _ _
theorem ok_steps {l : List ST} (h : ∀ s ∈ l, PyData.strOk s.nm = true) : ∀ d ∈ stepsD l, OkD 3 d := fun d hd => by
  obtain ⟨s, hs, rfl⟩ := List.mem_map.mp hd
  exact ok_step (h s hs)
theorem step_strOk {b : BK} (ok : b.Ok) {s : ST} (h : isStep b s = true) : PyData.strOk s.nm = true := by
  obtain ⟨d, f⟩ := step_inv h
  have := (ok.nm d f.mem).2.2
  rw [find_nm f.find] at this; exact this
theorem abk_strOk : ∀ s ∈ abk, PyData.strOk s = true := by decide +kernel
theorem ok_deed {b : BK} (ok : b.Ok) {d : Str × Nat × D} (h : d ∈ b.deeds) : OkD 8 (deedD d) := ok_tup fun e he => by
  simp only [List.mem_cons, List.not_mem_nil, or_false] at he
  rcases he with rfl | rfl | rfl
  · exact ok_str (ok.nm d h).2.2 _
  · exact ok_int _ _
  · exact wf_ok abk_strOk 6 _ (ok.fm d h).1 (ok.fm d h).2.1
def sp_lasked (cl : CF) (CB : Addr) : DSp := fun ds M Q _ => ∃ (p c a aw ad x q : Addr) (b : BK), ds = [.ref p, .ref c, .ref a, .ref x, .ref q] ∧ Dw p c M ∧ DaB M a aw ad b ∧ BkM cl CB M x b ∧ b.Ok ∧ NmZ b ∧ M q = some (.lst (stepsD b.steps)) ∧ a ≠ c ∧ aw ≠ c ∧ ad ≠ c ∧ x ≠ c ∧ q ≠ c ∧ ∀ M', Dr c M M' → Q (.bl true) M'
theorem BkM.go {cl : CF} {CB c x : Addr} {M M' : Mm} {b : BK} (h : BkM cl CB M x b) (d : Dr c M M') (n : x ≠ c) : BkM cl CB M' x b := ⟨d.ex _ _ n h.at_, h.cl⟩
theorem manyF_le {b : BK} (ok : b.Ok) (k : Nat) : manyF b k ≤ 1000000 := by
  unfold manyF
  have d6 := ok.d6
  have : ∀ l : List (Str × Nat × D), (l.map (priceIs k b)).sum ≤ l.length * 1024 := by
    intro l
    induction l with
    | nil => exact Nat.le_refl _
    | cons d l ih =>
      rw [List.map_cons, List.sum_cons, List.length_cons, Nat.succ_mul]
      have : priceIs k b d ≤ 1024 := by
        unfold priceIs
        split
        · exact stepCount_le ok _
        · omega
      omega
  have h1 := this b.deeds
  have : b.deeds.length * 1024 ≤ 6 * 1024 := Nat.mul_le_mul_right _ d6
  omega
def sevenL (r : Nat) : List D := [.int 0, .int 1, .int 2, .int 3, .int 4, .int 5, .int (6 + (r : Int))]
theorem seven_is (r : Nat) (hr : r < 35) : ∀ (i : Nat) (d : D), (sevenL r)[i]? = some d → ∃ n : Nat, d = .int n ∧ n ≤ 40 := by
  intro i d h
  match i with
  | 0 => exact ⟨0, (Option.some.inj h).symm, by decide⟩
  | 1 => exact ⟨1, (Option.some.inj h).symm, by decide⟩
  | 2 => exact ⟨2, (Option.some.inj h).symm, by decide⟩
  | 3 => exact ⟨3, (Option.some.inj h).symm, by decide⟩
  | 4 => exact ⟨4, (Option.some.inj h).symm, by decide⟩
  | 5 => exact ⟨5, (Option.some.inj h).symm, by decide⟩
  | 6 => exact ⟨6 + r, by rw [← Option.some.inj h]; push_cast; rfl, by omega⟩
  | _ + 7 => cases h
theorem r__law_book_asked (cl : CF) (CB : Addr) : ∀ ds M Q E, sp_lasked cl CB ds M Q E → b__law_book_asked CB (sp_steps cl CB) (sp_deed cl CB) (sp_codes_within cl CB) (sp_lunknown cl CB) sp_lmany sp_take sp_whole sp_lcounts (En Q) (startD 9 ds) M := by
  rintro ds M Q E ⟨p, c, a, aw, ad, x, q, b, rfl, dw, da, bm, ok, nz, hq, n0, n1, n2, nx, nq, h⟩
  refine ⟨x, _, rfl, bm.at_, rfl, ?_⟩
  refine ⟨x, b, rfl, bm, ok, fun pt M1 hpt x1 hmt => ?_⟩
  have hok := ok_steps fun s hs => step_strOk ok (steps_ok ok hs)
  have sl := steps_len ok
  refine .inl ⟨_, hmt, ?_⟩
  walk_at "if"
  refine tB_op rfl rfl (ne_lists hmt (x1 _ _ hq) hok (by decide) ?_)
  walk_at "if"
  refine ⟨⟨_, hmt⟩, by show 0 ≤ sizeLine; decide, _, hmt, tolist (by rw [stepsD_len]; omega), ?_⟩
  have x2 : Ext M (updM M1 pt (.lst (stepsD b.steps ++ [.tup []]))) := x1.mut hpt
  generalize updM M1 pt (.lst (stepsD b.steps ++ [.tup []])) = M2 at x2 ⊢
  have da2 := da.ext x2
  have bm2 := bm.ext x2
  refine .inl ⟨_, _, .ref ad, da2.h0, rfl, rfl, _, da2.h2, ?_⟩
  refine ⟨fun i E M' => M' = M2 ∧ ∃ x6 : Option D, E = [some (.ref p), some (.ref c), some (.ref a), some (.ref x), some (.ref q), some (.ref pt), x6, none, none], ⟨rfl, none, rfl⟩, fun i E M' ⟨e, _⟩ => by rw [e]; exact da2.h2, ?_, ?_⟩
  · rintro i E M' d0 hd ⟨rfl, x6, rfl⟩
    rw [List.getElem?_map] at hd
    obtain ⟨d, he, rfl⟩ := Option.map_eq_some_iff.mp hd
    have hm := mem_at he
    have hf := find_self ok hm
    refine ⟨x, _, rfl, bm2.at_, rfl, _, at0, x, b, d.1, d, rfl, bm2, hf, ?_⟩
    walk_at "if"
    refine ⟨x, _, rfl, bm2.at_, rfl, _, at0, x, b, d.1, d, rfl, bm2, hf, ?_⟩
    show dVar 6 _ _ _
    refine v_op rfl (ne_same (ok_deed ok hm) (by decide) ?_)
    walk_at "if"
    exact ⟨rfl, _, rfl⟩
  rintro E M' ⟨rfl, x6, rfl⟩
  refine ⟨x, b, "zz", rfl, bm2, by decide, nz.zz, fun M3 x3 => ?_⟩
  walk_at "if"
  refine ⟨x, b, "add9", rfl, bm2.ext x3, by decide, nz.a9, fun M4 x4 => ?_⟩
  walk_at "if"
  have x24 := x2.trans (x3.trans x4)
  have da4 := da.ext x24
  refine ⟨a, aw, ad, q, b, rfl, da4, ok, x24 _ _ hq, fun pm M5 hpm x5 hmm => ?_⟩
  have x05 := x24.trans x5
  have pmc : pm ≠ c := (dw.go (.ofExt x24)).cne hpm
  have dw5 := dw.go (.ofExt x05)
  refine ⟨p, c, 35, rfl, by decide, dw5, fun r hr M6 d6 => ?_⟩
  have d06 : Dr c M M6 := (Dr.ofExt x05).trans d6
  have dw6 := dw.go d06
  refine ⟨by show 7 ≤ sizeLine; decide, fun ps hps => ?_⟩
  have xs : Ext M6 (updM M6 ps (.lst (sevenL r))) := Ext.new hps
  have ms : updM M6 ps (.lst (sevenL r)) ps = some (.lst (sevenL r)) := updM_same
  refine ⟨sevenL r, ms, ?_⟩
  show ∃ I : Nat → DEnv → Mm → Prop, I 0 _ (updM M6 ps (.lst (sevenL r))) ∧ _
  generalize updM M6 ps (.lst (sevenL r)) = M7 at xs ms ⊢
  have d07 : Dr c M M7 := d06.trans (.ofExt xs)
  have bm7 := bm.go d07 nx
  have mm7 := xs _ _ (d6.ex _ _ pmc hmm)
  refine ⟨fun i E M' => Ext M7 M' ∧ ∃ x8 : Option D, E = [some (.ref p), some (.ref c), some (.ref a), some (.ref x), some (.ref q), some (.ref pt), x6, some (.ref pm), x8], ⟨Ext.refl _, none, rfl⟩, fun i E M' ⟨e, _⟩ => e _ _ ms, ?_, ?_⟩
  · rintro i E M' d0 hd ⟨hx, x8, rfl⟩
    obtain ⟨n, rfl, hn⟩ := seven_is r hr i d0 hd
    refine ⟨x, _, rfl, (bm7.ext hx).at_, rfl, ?_⟩
    refine ⟨x, b, n, rfl, bm7.ext hx, ok, by omega, fun M8 x8' => ?_⟩
    have hx8 := hx.trans x8'
    refine ⟨pm, manyF b, n, rfl, hx8 _ _ mm7, manyF_le ok, by omega, fun M9 x9 => ?_⟩
    refine ⟨_, _, rfl, ?_⟩
    rw [lcounts_eq ok, decide_eq_true rfl]
    walk_at "if"
    exact ⟨hx8.trans x9, _, rfl⟩
  rintro E M8 ⟨hx, x8, rfl⟩
  have d08 : Dr c M M8 := d07.trans (.ofExt hx)
  have bm8 := bm.go d08 nx
  refine ⟨x, _, rfl, bm8.at_, rfl, ?_⟩
  refine ⟨x, b, rfl, bm8, ok, fun pu M9 hpu x9 hmu => ?_⟩
  exact eq_lists hmu (x9 _ _ (d08.ex _ _ nq hq)) hok (by decide) (h M9 (d08.trans (.ofExt x9)))
end Rk

set_option Elab.async false
set_option linter.all false
set_option autoImplicit false
set_option maxRecDepth 100000
set_option maxHeartbeats 4000000
/-! readings for k88: the law, its tails -/
namespace Rk
open PySem PySem.Spec PyProof.Rows L2 DH Bd Rd
local macro_rules | `(tactic| walk_at "if") => `(tactic| first | (refine ⟨fun _ => ?_, fun hc => absurd hc (by decide)⟩) | (refine ⟨fun hc => absurd hc (by decide), fun _ => ?_⟩))
def b_lw22 (s__law_is_state : DSp) (s_check_code : DSp) (s__law_is_whole : DSp) (s_code_price : DSp) (s_run_code : DSp) : DS := dSeq (dIf (dtOr (dtB (dOp (oIs true) (dCall s_check_code (dCons (dVar 4) (dCons (dVar 14) (dNil)))) (dC .non))) (dtNot (dtE (dCall s__law_is_whole (dCons (dCall s_code_price (dCons (dVar 4) (dCons (dVar 14) (dNil)))) (dCons (dVar 16) (dNil))))))) (dRet (dC (.bl false))) (dNext)) (dRet (dCall s__law_is_state (dCons (dCall s_run_code (dCons (dVar 4) (dCons (dVar 14) (dCons (dVar 12) (dNil))))) (dCons (dVar 18) (dNil)))))
def b_lw21 (s__law_is_state : DSp) (s__law_after : DSp) (s_step_state : DSp) (s_check_code : DSp) (s__law_is_whole : DSp) (s_code_price : DSp) (s_run_code : DSp) : DS := dSeq (dFor (dRng1 (dCons (dL oLen (dCons (dVar 7) (dNil))) (dNil))) (.nm 8) (dSeq (dAsg (dCall s__law_after (dCons (dVar 3) (dCons (dOp oIx (dVar 7) (dVar 8)) (dCons (dVar 18) (dNil))))) (.nm 18)) (dIf (dtAnd (dtB (dOp oEq (dVar 8) (dC (.int 0)))) (dtNot (dtE (dCall s__law_is_state (dCons (dCall s_step_state (dCons (dVar 4) (dCons (dOp oIx (dVar 7) (dC (.int 0))) (dCons (dVar 12) (dNil))))) (dCons (dVar 18) (dNil))))))) (dRet (dC (.bl false))) (dNext)))) (b_lw22 s__law_is_state s_check_code s__law_is_whole s_code_price s_run_code)
def b_lw19 (s__law_is_state : DSp) (s__law_deed : DSp) (s__law_after : DSp) (s_step_state : DSp) (s_check_code : DSp) (s__law_is_whole : DSp) (s_code_price : DSp) (s_run_code : DSp) : DS := dSeq (dAsg (dL oSumL (dCons (dLc (dIter (dVar 7)) (.nm 17) dYes (dOp oIx (dCall s__law_deed (dCons (dVar 3) (dCons (dOp oIx (dVar 17) (dC (.int 0))) (dNil)))) (dC (.int 1))) [17]) (dNil))) (.nm 16)) (dSeq (dAsg (dVar 12) (.nm 18)) (b_lw21 s__law_is_state s__law_after s_step_state s_check_code s__law_is_whole s_code_price s_run_code))
def b_lw16 (s__law_is_state : DSp) (s__law_bad : DSp) (s__law_deed : DSp) (s__law_after : DSp) (s_step_state : DSp) (s_check_code : DSp) (s__law_is_whole : DSp) (s_code_price : DSp) (s_run_code : DSp) : DS := dSeq (dAsg (dL oList (dCons (dVar 7) (dNil))) (.nm 14)) (dSeq (dFor (dRng1 (dCons (dC (.int 3)) (dNil))) (.nm 15) (dIf (dtB (dOp oNe (dCall s__law_bad (dCons (dVar 4) (dCons (dVar 14) (dCons (dVar 12) (dCons (dVar 15) (dNil)))))) (dVar 9))) (dRet (dC (.bl false))) (dNext))) (dSeq (dIf (dtOr (dtB (dOp oNe (dVar 14) (dVar 7))) (dtB (dOp oGe (dVar 9) (dC (.int 0))))) (dRet (dOp oEq (dVar 14) (dVar 7))) (dNext)) (b_lw19 s__law_is_state s__law_deed s__law_after s_step_state s_check_code s__law_is_whole s_code_price s_run_code)))
def b_lw13 (s__law_take : DSp) (s__law_is_state : DSp) (s_begin_state : DSp) (s__law_bad : DSp) (s__law_deed : DSp) (s__law_after : DSp) (s_step_state : DSp) (s_check_code : DSp) (s__law_is_whole : DSp) (s_code_price : DSp) (s_run_code : DSp) : DS := dSeq (dAsg (dL oTuple (dCons (dLc (dRng1 (dCons (dOp oIx (dVar 3) (dC (.int 1))) (dNil))) (.nm 8) dYes (dCall s__law_take (dCons (dVar 1) (dCons (dVar 2) (dCons (dOp oShl (dC (.int 1)) (dOp oIx (dVar 3) (dC (.int 0)))) (dNil))))) [8]) (dNil))) (.nm 12)) (dSeq (dAsg (dSl (dVar 12) dNoPart (dPart (dCall s__law_take (dCons (dVar 1) (dCons (dVar 2) (dCons (dOp oAdd (dOp oIx (dVar 3) (dC (.int 1))) (dC (.int 1))) (dNil))))))) (.nm 13)) (dSeq (dIf (dtNot (dtE (dCall s__law_is_state (dCons (dCall s_begin_state (dCons (dVar 4) (dCons (dVar 13) (dNil)))) (dCons (dOp oAdd (dVar 13) (dL oTuple (dCons (dLc (dRng1 (dCons (dOp oSub (dOp oIx (dVar 3) (dC (.int 1))) (dL oLen (dCons (dVar 13) (dNil)))) (dNil))) (.nm 8) dYes (dC (.int 0)) [8]) (dNil)))) (dNil)))))) (dRet (dC (.bl false))) (dNext)) (b_lw16 s__law_is_state s__law_bad s__law_deed s__law_after s_step_state s_check_code s__law_is_whole s_code_price s_run_code)))
def b_lw12 (c_Book : Addr) (s_Bookis_step : DSp) (s__law_take : DSp) (s__law_spoilt : DSp) (s__law_is_state : DSp) (s_begin_state : DSp) (s__law_bad : DSp) (s__law_deed : DSp) (s__law_after : DSp) (s_step_state : DSp) (s_check_code : DSp) (s__law_is_whole : DSp) (s_code_price : DSp) (s_run_code : DSp) : DS := dSeq (dIf (dtAnd (dtB (dOp oGt (dL oLen (dCons (dVar 7) (dNil))) (dC (.int 0)))) (dtB (dOp oEq (dCall s__law_take (dCons (dVar 1) (dCons (dVar 2) (dCons (dC (.int 2)) (dNil))))) (dC (.int 0))))) (dSeq (dAsg (dOp oMod (dCall s__law_take (dCons (dVar 1) (dCons (dVar 2) (dCons (dC (.int 1009)) (dNil))))) (dL oLen (dCons (dVar 7) (dNil)))) (.nm 10)) (dSeq (dAsg (dMeth c_Book "is_step" s_Bookis_step (dVar 4) (dCons (dOp oIx (dVar 7) (dVar 10)) (dNil))) (.nm 11)) (dSeq (dSetIx (dCall s__law_spoilt (dCons (dVar 1) (dCons (dVar 2) (dCons (dVar 3) (dCons (dOp oIx (dVar 7) (dVar 10)) (dNil)))))) (dVar 7) (dVar 10)) (dSeq (dIf (dtOr (dtB (dOp (oIs true) (dVar 11) (dC (.bl true)))) (dtB (dOp (oIs true) (dMeth c_Book "is_step" s_Bookis_step (dVar 4) (dCons (dOp oIx (dVar 7) (dVar 10)) (dNil))) (dC (.bl false))))) (dRet (dC (.bl false))) (dNext)) (dAsg (dL oMin2 (dCons (dVar 10) (dCons (dC (.int 200)) (dNil)))) (.nm 9)))))) (dNext)) (b_lw13 s__law_take s__law_is_state s_begin_state s__law_bad s__law_deed s__law_after s_step_state s_check_code s__law_is_whole s_code_price s_run_code)
def b_lw10 (c_Book : Addr) (s_Bookis_step : DSp) (s__law_take : DSp) (s__law_spoilt : DSp) (s__law_is_state : DSp) (s_begin_state : DSp) (s__law_bad : DSp) (s__law_deed : DSp) (s__law_after : DSp) (s_step_state : DSp) (s_check_code : DSp) (s__law_is_whole : DSp) (s_code_price : DSp) (s_run_code : DSp) : DS := dSeq (dAsg (dUn oNeg (dC (.int 1))) (.nm 9)) (dSeq (dIf (dtB (dOp oGt (dL oLen (dCons (dVar 7) (dNil))) (dC (.int 200)))) (dAsg (dC (.int 200)) (.nm 9)) (dNext)) (b_lw12 c_Book s_Bookis_step s__law_take s__law_spoilt s__law_is_state s_begin_state s__law_bad s__law_deed s__law_after s_step_state s_check_code s__law_is_whole s_code_price s_run_code))
def b_lw6 (c_Book : Addr) (s_Bookis_step : DSp) (s__law_take : DSp) (s__law_spoilt : DSp) (s__law_is_state : DSp) (s_begin_state : DSp) (s__law_bad : DSp) (s__law_deed : DSp) (s__law_after : DSp) (s_step_state : DSp) (s_check_code : DSp) (s__law_is_whole : DSp) (s_code_price : DSp) (s_run_code : DSp) : DS := dSeq (dAsg (dCall s__law_take (dCons (dVar 1) (dCons (dVar 2) (dCons (dC (.int 7)) (dNil))))) (.nm 6)) (dSeq (dIf (dtB (dOp oEq (dCall s__law_take (dCons (dVar 1) (dCons (dVar 2) (dCons (dC (.int 16)) (dNil))))) (dC (.int 0)))) (dAsg (dOp oAdd (dC (.int 190)) (dCall s__law_take (dCons (dVar 1) (dCons (dVar 2) (dCons (dC (.int 14)) (dNil)))))) (.nm 6)) (dNext)) (dSeq (dAsg (dLst (dNil)) (.nm 7)) (dSeq (dFor (dRng1 (dCons (dVar 6) (dNil))) (.nm 8) (dIf (dtB (dOp oGt (dL oLen (dCons (dVar 5) (dNil))) (dC (.int 0)))) (dDrop (dApp (dVar 7) (dOp oIx (dVar 5) (dOp oMod (dOp oAdd (dOp oMul (dCall s__law_take (dCons (dVar 1) (dCons (dVar 2) (dCons (dC (.int 1009)) (dNil))))) (dC (.int 31))) (dCall s__law_take (dCons (dVar 1) (dCons (dVar 2) (dCons (dC (.int 31)) (dNil)))))) (dL oLen (dCons (dVar 5) (dNil))))))) (dNext))) (b_lw10 c_Book s_Bookis_step s__law_take s__law_spoilt s__law_is_state s_begin_state s__law_bad s__law_deed s__law_after s_step_state s_check_code s__law_is_whole s_code_price s_run_code))))

/-- what holds all along the law -/
structure LI (cl : CF) (CB p c a aw ad x : Addr) (b : BK) (M : Mm) : Prop where
  dw : Dw p c M
  da : DaB M a aw ad b
  bm : BkM cl CB M x b
  n0 : a ≠ c
  n1 : aw ≠ c
  n2 : ad ≠ c
  nx : x ≠ c
  ok : b.Ok
  nz : NmZ b
structure CoI (code : List ST) : Prop where
  co : CodeOk code
  nm : ∀ s ∈ code, PyData.strOk s.nm = true
theorem CoI.oks {code : List ST} (h : CoI code) : ∀ d ∈ stepsD code, OkD 3 d := ok_steps h.nm
abbrev LE (s0 m : D) (p c a x q qc : Addr) (x8 x9 x10 x11 x12 x13 x14 x15 x16 x17 x18 : Option D) : DEnv := [some s0, some (.ref p), some (.ref c), some (.ref a), some (.ref x), some (.ref q), some m, some (.ref qc), x8, x9, x10, x11, x12, x13, x14, x15, x16, x17, x18]
section
variable {cl : CF} {CB p c a aw ad x q qc : Addr} {b : BK} {M : Mm} {s0 m : D} {x8 x9 x10 x11 x12 x13 x14 x15 x16 x17 x18 : Option D} {code : List ST} {st : List Nat} {Q : DQ}
theorem LI.go {M' : Mm} (L : LI cl CB p c a aw ad x b M) (d : Dr c M M') : LI cl CB p c a aw ad x b M' := ⟨L.dw.go d, L.da.go d L.n0 L.n1 L.n2, L.bm.go d L.nx, L.n0, L.n1, L.n2, L.nx, L.ok, L.nz⟩
theorem LI.ext {M' : Mm} (L : LI cl CB p c a aw ad x b M) (e : Ext M M') : LI cl CB p c a aw ad x b M' := L.go (.ofExt e)
theorem t22 {qh : Addr} (L : LI cl CB p c a aw ad x b M) (so : StOk b st) (co : CodeOk code) (hn : firstBad b code = none) (hh : M qh = some (.lst (stepsD code))) (hQ : ∀ M', Q (.bl true) M') :
    b_lw22 sp_is_state (sp_check_code cl CB) sp_whole (sp_code_price cl CB) (sp_run_code cl CB) (En Q) (LE s0 m p c a x q qc x8 x9 x10 x11 (some (.tup (wds st))) x13 (some (.ref qh)) x15 (some (.int (costS b code : Nat))) x17 (some (.tup (wds (runS b code st))))) M := by
  have ok := L.ok
  have r4 := ok.r4
  refine ⟨x, b, _, code, rfl, L.bm, ok, .inr ⟨qh, rfl, hh⟩, co, hn, fun M1 x1 => ?_⟩
  walk_at "if"
  refine ⟨x, b, _, code, rfl, L.bm.ext x1, ok, .inr ⟨qh, rfl, x1 _ _ hh⟩, co, hn, fun M2 x2 => ?_⟩
  have x12 := x1.trans x2
  refine ⟨_, _, rfl, ?_⟩
  rw [decide_eq_true rfl]
  walk_at "if"
  refine ⟨x, b, _, code, st, rfl, L.bm.ext x12, ok, .inr ⟨qh, rfl, x12 _ _ hh⟩, co, so, hn, fun M3 x3 => ?_⟩
  exact ⟨runS b code st, rfl, by rw [(run_ok ok (fb_none hn) so).len]; omega, fun M4 _ => hQ M4⟩
theorem t21 {qh : Addr} (L : LI cl CB p c a aw ad x b M) (so : StOk b st) (co : CodeOk code) (hn : firstBad b code = none) (hc : M qc = some (.lst (stepsD code))) (hh : M qh = some (.lst (stepsD code))) (hQ : ∀ M', Q (.bl true) M') :
    b_lw21 sp_is_state sp_lafter (sp_step_state cl CB) (sp_check_code cl CB) sp_whole (sp_code_price cl CB) (sp_run_code cl CB) (En Q) (LE s0 m p c a x q qc x8 x9 x10 x11 (some (.tup (wds st))) x13 (some (.ref qh)) x15 (some (.int (costS b code : Nat))) x17 (some (.tup (wds st)))) M := by
  have ok := L.ok
  have r4 := ok.r4
  have cl1 := co.len
  have hst := fb_none hn
  refine .inl ⟨_, hc, ?_⟩
  rw [stepsD_len]
  refine ⟨by omega, by omega, ?_⟩
  refine ⟨fun i E M' => Ext M M' ∧ ∃ x8 : Option D, E = LE s0 m p c a x q qc x8 x9 x10 x11 (some (.tup (wds st))) x13 (some (.ref qh)) x15 (some (.int (costS b code : Nat))) x17 (some (.tup (wds (runS b (code.take i) st)))), ⟨Ext.refl _, x8, rfl⟩, fun _ _ _ _ => trivial, ?_, ?_⟩
  · rintro i E M' d0 hd ⟨hx, y8, rfl⟩
    obtain ⟨hi, rfl⟩ := rng_at hd
    have hi : i < code.length := by have : i < (code.length : Int).toNat := hi; omega
    rw [Int.zero_add]
    have hat := getE hi
    have hs := hst _ (List.getElem_mem hi)
    generalize code[i] = s at hat hs
    have so' := run_ok ok (code := code.take i) (fun y hy => hst y (List.mem_of_mem_take hy)) so
    refine .inl ⟨_, _, _, hx _ _ hc, rfl, atI_nat (stepsD_at hat), ?_⟩
    refine ⟨a, aw, ad, b, s, _, rfl, L.da.ext hx, ok, so', hs, fun M2 x2 => ?_⟩
    have hx2 := hx.trans x2
    have fin : ∀ M3, Ext M M3 → Ext M M3 ∧ ∃ x8 : Option D, LE s0 m p c a x q qc (some (.int (i : Nat))) x9 x10 x11 (some (.tup (wds st))) x13 (some (.ref qh)) x15 (some (.int (costS b code : Nat))) x17 (some (.tup (wds (stepAfter b s (runS b (code.take i) st))))) = LE s0 m p c a x q qc x8 x9 x10 x11 (some (.tup (wds st))) x13 (some (.ref qh)) x15 (some (.int (costS b code : Nat))) x17 (some (.tup (wds (runS b (code.take (i + 1)) st)))) := fun M3 h3 => ⟨h3, _, by rw [take_snoc hat, runS_snoc]⟩
    refine ⟨fun h0 => ?_, fun h0 => ?_⟩
    · have h0 : decide ((i : Int) = 0) = true := h0
      have h0 := of_decide_eq_true h0
      have h0 : i = 0 := by omega
      subst h0
      refine .inl ⟨_, _, _, hx2 _ _ hc, rfl, atI_nat (j := 0) (stepsD_at hat), ?_⟩
      refine ⟨x, b, s, st, rfl, L.bm.ext hx2, ok, so, hs, fun M3 x3 => ?_⟩
      refine ⟨stepAfter b s st, rfl, by rw [(after_ok ok so hs).len]; omega, fun M4 x4 => ?_⟩
      walk_at "if"
      exact fin M4 (hx2.trans (x3.trans x4))
    · walk_at "if"
      exact fin M2 hx2
  · rintro E M' ⟨hx, y8, rfl⟩
    rw [rng_len, show ((code.length : Nat) : Int).toNat = code.length by omega, List.take_length]
    exact t22 (L.ext hx) so co hn (hx _ _ hh) hQ
theorem nil_i {E : DEnv} {M : Mm} {Q : List D → Mm → Prop} (h : Q [] M) : dNil E M Q := h
theorem seq_i {t u : DS} {D : DEnds} {E : DEnv} {M : Mm} (h : t { D with nx := u D } E M) : dSeq t u D E M := h
theorem if_i {t : DT} {A B : DS} {D : DEnds} {E : DEnv} {M : Mm} (h : t E M fun c M1 => (c = true → A D E M1) ∧ (c = false → B D E M1)) : dIf t A B D E M := h
theorem or_i {t u : DT} {E : DEnv} {M : Mm} {Q : Bool → Mm → Prop} (h : t E M fun b M1 => (b = true → Q true M1) ∧ (b = false → u E M1 Q)) : dtOr t u E M Q := h
theorem sumL_nat {l : List Nat} {a : Addr} {M : Mm} {Q : DQ} (h : M a = some (.lst (wds l))) (q : Q (.int (l.sum : Nat)) M) : oSumL [.ref a] M Q := by
  rw [wds_ints] at h
  exact ⟨a, _, rfl, h, qi q (sum_ints _)⟩
theorem t19 {qh : Addr} (L : LI cl CB p c a aw ad x b M) (so : StOk b st) (co : CodeOk code) (hn : firstBad b code = none) (hc : M qc = some (.lst (stepsD code))) (hh : M qh = some (.lst (stepsD code))) (hQ : ∀ M', Q (.bl true) M') :
    b_lw19 sp_is_state sp_ldeed sp_lafter (sp_step_state cl CB) (sp_check_code cl CB) sp_whole (sp_code_price cl CB) (sp_run_code cl CB) (En Q) (LE s0 m p c a x q qc x8 x9 x10 x11 (some (.tup (wds st))) x13 (some (.ref qh)) x15 x16 x17 x18) M := by
  have ok := L.ok
  have cl1 := co.len
  have hst := fb_none hn
  refine ⟨_, hc, fun pr hpr => ?_⟩
  refine ⟨fun i acc M' => Ext M M' ∧ M' pr = some (.lst acc) ∧ acc = wds ((code.take i).map (priceOf b)), ⟨Ext.new hpr, updM_same, rfl⟩, fun i acc M' ⟨hx, _⟩ => hx _ _ hc, ?_, ?_⟩
  · rintro i acc M' d0 hd ⟨hx, hm, rfl⟩
    obtain ⟨s, hsi, rfl⟩ := stepsD_get hd
    obtain ⟨d, f⟩ := step_inv (hst s (mem_at hsi))
    have ep : priceOf b s = d.2.1 := by unfold priceOf; rw [f.find]
    refine ⟨fun _ => ?_, fun hc => absurd hc (by decide)⟩
    refine ⟨_, at0, a, aw, ad, b, s.nm, d, rfl, L.da.ext hx, f.find, .int (d.2.1 : Nat), rfl, ?_⟩
    refine ⟨hm, tolist (by rw [wds_len, List.length_map, List.length_take]; omega), hx.mut hpr, updM_same, ?_⟩
    rw [take_snoc hsi, List.map_append, List.map_cons, List.map_nil, wds_snoc, ep]
  · rintro acc M' ⟨hx, hm, rfl⟩
    rw [stepsD_len, List.take_length] at hm
    refine nil_i ?_
    refine sumL_nat hm ?_
    exact t21 (L.ext hx) so co hn (hx _ _ hc) (hx _ _ hh) hQ
theorem t16 (L : LI cl CB p c a aw ad x b M) (so : StOk b st) (co : CoI code) (hc : M qc = some (.lst (stepsD code))) (hQ : ∀ M', Q (.bl true) M') :
    b_lw16 sp_is_state (sp_lbad cl CB) sp_ldeed sp_lafter (sp_step_state cl CB) (sp_check_code cl CB) sp_whole (sp_code_price cl CB) (sp_run_code cl CB) (En Q) (LE s0 m p c a x q qc x8 (some (.int (fbI (firstBad b code)))) x10 x11 (some (.tup (wds st))) x13 x14 x15 x16 x17 x18) M := by
  have ok := L.ok
  refine ⟨_, hc, fun qh hqh => ?_⟩
  have xh : Ext M (updM M qh (.lst (stepsD code))) := Ext.new hqh
  have hh : updM M qh (.lst (stepsD code)) qh = some (.lst (stepsD code)) := updM_same
  generalize updM M qh (.lst (stepsD code)) = M1 at xh hh ⊢
  refine ⟨by decide, by decide, ?_⟩
  refine ⟨fun i E M' => Ext M1 M' ∧ ∃ x15 : Option D, E = LE s0 m p c a x q qc x8 (some (.int (fbI (firstBad b code)))) x10 x11 (some (.tup (wds st))) x13 (some (.ref qh)) x15 x16 x17 x18, ⟨Ext.refl _, x15, rfl⟩, fun _ _ _ _ => trivial, ?_, ?_⟩
  · rintro i E M' d0 hd ⟨hx, y15, rfl⟩
    obtain ⟨hi, rfl⟩ := rng_at hd
    have hi : i < 3 := hi
    rw [Int.zero_add]
    refine ⟨x, b, _, code, st, i, rfl, hi, L.bm.ext (xh.trans hx), ok, .inr ⟨qh, rfl, hx _ _ hh⟩, co.co, so, fun M2 x2 => ?_⟩
    refine ⟨fun h0 => ?_, fun _ => ⟨hx.trans x2, _, rfl⟩⟩
    have h0 : (!decide (fbI (firstBad b code) = fbI (firstBad b code))) = true := h0
    rw [decide_eq_true rfl] at h0; cases h0
  rintro E M' ⟨hx, y15, rfl⟩
  have x2 := xh.trans hx
  have hc' := x2 _ _ hc
  have hh' := hx _ _ hh
  dsimp only
  refine seq_i ?_
  refine if_i ?_
  refine or_i ?_
  refine tB_op rfl rfl (ne_lists hh' hc' co.oks (by decide) ?_)
  walk_at "if"
  cases hf : firstBad b code with
  | none =>
    rw [show fbI none = -1 from rfl]
    walk_at "if"
    exact t19 (L.ext x2) so co.co hf hc' hh' hQ
  | some k =>
    rw [show fbI (some k) = (k : Int) from rfl]
    refine ⟨fun _ => ?_, fun h0 => ?_⟩
    · exact E_op rfl rfl (eq_lists hh' hc' co.oks (by decide) (hQ _))
    · have h0 : decide ((0 : Int) ≤ (k : Int)) = false := h0
      have := of_decide_eq_false h0; omega
end
end Rk

set_option Elab.async false
set_option linter.all false
set_option autoImplicit false
set_option maxRecDepth 100000
set_option maxHeartbeats 4000000
/-! readings for k88: the law, its head -/
namespace Rk
open PySem PySem.Spec PyProof.Rows L2 DH Bd Rd
local macro_rules | `(tactic| walk_at "if") => `(tactic| first | (refine ⟨fun _ => ?_, fun hc => absurd hc (by decide)⟩) | (refine ⟨fun hc => absurd hc (by decide), fun _ => ?_⟩))
theorem fb_all {b : BK} : ∀ {code : List ST} {k : Nat}, (∀ s ∈ code, isStep b s = true) → k ≤ 200 → firstBadF b k code = if 200 < k + code.length then some 200 else none
  | [], k, _, hk => by rw [if_neg (by simp; omega)]; rfl
  | s :: r, k, h, hk => by
    have hs := h s (by simp)
    simp only [firstBadF, List.length_cons]
    by_cases e : 200 ≤ k
    · rw [if_pos (.inl e), if_pos (by omega)]
      congr 1; omega
    · rw [if_neg (by rintro (z | z); exact e z; rw [hs] at z; cases z), fb_all (fun x hx => h x (List.mem_cons_of_mem _ hx)) (by omega)]
      have : k + 1 + r.length = k + (r.length + 1) := by omega
      rw [this]
theorem fb_spoilt {b : BK} {code : List ST} {i : Nat} {s' : ST} (h : ∀ s ∈ code, isStep b s = true) (hi : i < code.length) (hs : isStep b s' = false) : firstBad b (code.set i s') = some (min i 200) := by
  have e : ∃ z, (code.set i s')[min i 200]? = some z ∧ (200 ≤ 0 + min i 200 ∨ isStep b z = false) := by
    by_cases h2 : i < 200
    · refine ⟨s', ?_, .inr hs⟩
      rw [show min i 200 = i by omega, List.getElem?_set_self hi]
    · have hl : min i 200 < (code.set i s').length := by rw [List.length_set]; omega
      exact ⟨_, getE hl, .inl (by omega)⟩
  obtain ⟨z, h1, h2⟩ := e
  have ht : (code.set i s').take (min i 200) = code.take (min i 200) := by
    rw [List.take_set, List.set_eq_of_length_le]
    rw [List.length_take]; omega
  have := fb_hit (k := 0) h1 h2 (by
    rw [ht, fb_all (fun s hs => h s (List.mem_of_mem_take hs)) (by omega), if_neg]
    rw [List.length_take]; omega)
  rw [Nat.zero_add] at this
  exact this
section
variable {cl : CF} {CB p c a aw ad x q qc : Addr} {b : BK} {M M0 : Mm} {s0 m : D} {x8 x9 x10 x11 x12 x13 x14 x15 x16 x17 x18 : Option D} {code : List ST} {st : List Nat} {Q : DQ}
theorem t13 (L0 : LI cl CB p c a aw ad x b M0) (d0 : Dr c M0 M) (hq0 : M0 qc = none) (co : CoI code) (hc : M qc = some (.lst (stepsD code))) (hQ : ∀ M', Q (.bl true) M') :
    b_lw13 sp_take sp_is_state (sp_begin_state cl CB) (sp_lbad cl CB) sp_ldeed sp_lafter (sp_step_state cl CB) (sp_check_code cl CB) sp_whole (sp_code_price cl CB) (sp_run_code cl CB) (En Q) (LE s0 m p c a x q qc x8 (some (.int (fbI (firstBad b code)))) x10 x11 x12 x13 x14 x15 x16 x17 x18) M := by
  have L := L0.go d0
  have ok := L.ok
  have w4 := ok.w4
  have r4 := ok.r4
  have qcc := L0.dw.cne hq0
  refine .inl ⟨_, _, .int b.r, L.da.h0, rfl, rfl, ?_⟩
  refine ⟨by omega, by omega, fun ps hps => ?_⟩
  refine ⟨fun i acc M' => Dr c M M' ∧ M' ps = some (.lst acc) ∧ ∃ st : List Nat, acc = wds st ∧ st.length = i ∧ ∀ y ∈ st, y < 2 ^ b.w, ⟨.new hps, updM_same, [], rfl, rfl, by simp⟩, fun _ _ _ _ => trivial, ?_, ?_⟩
  · rintro i acc M' d hd ⟨hx, hm, st, rfl, hl, hlt⟩
    obtain ⟨hi, rfl⟩ := rng_at hd
    have hi : i < b.r := by have : i < (b.r : Int).toNat := hi; omega
    have L' := L.go hx
    refine ⟨fun _ => ?_, fun hc => absurd hc (by decide)⟩
    refine .inl ⟨_, _, .int b.w, L'.da.h0, rfl, at0, cpow b.w (by omega) (by decide), ?_⟩
    refine ⟨p, c, 2 ^ b.w, by show [D.ref p, D.ref c, D.int (1 * 2 ^ ((b.w : Int)).toNat)] = _; rw [pow_cast b.w], Nat.two_pow_pos _, L'.dw, fun r hr M2 d2 => ?_⟩
    refine ⟨d2.ex _ _ (L.dw.cne hps) hm, tolist (by rw [wds_len]; omega), (hx.trans d2).mut L.dw.cur hps, updM_same, st ++ [r], (wds_snoc st r).symm, by rw [List.length_append, hl]; rfl, fun y hy => ?_⟩
    rcases List.mem_append.mp hy with hy | hy
    · exact hlt y hy
    · cases List.mem_singleton.mp hy; exact hr
  rintro acc M' ⟨hx, hm, st, rfl, hl, hlt⟩
  rw [rng_len, show (b.r : Int).toNat = b.r by omega] at hl
  refine ⟨_, hm, ?_⟩
  have so : StOk b st := ⟨hl, hlt⟩
  have L' := L.go hx
  refine .inl ⟨_, _, .int b.r, L'.da.h0, rfl, rfl, p, c, b.r + 1, by push_cast; rfl, Nat.succ_pos _, L'.dw, fun k hk M2 d2 => ?_⟩
  have ec : cutL D (wds st) none (some (k : Int)) = wds (st.take k) := by
    rw [cutTo D (wds st) k (by rw [wds_len]; omega)]
    unfold wds
    rw [List.map_take]
  dsimp only [oSl]
  rw [show cutL D (wds st) none (some (k : Int)) = wds (st.take k) from ec]
  have rl : (st.take k).length ≤ b.r := by rw [List.length_take]; omega
  generalize st.take k = row at rl ⊢
  have L2 := L'.go d2
  refine ⟨x, b, row, rfl, L2.bm, ok, rl, ?_⟩
  refine .inl ⟨_, _, .int b.r, L2.da.h0, rfl, rfl, ?_⟩
  have ek : (b.r : Int) - ((wds row).length : Int) = ((b.r - row.length : Nat) : Int) := by rw [wds_len]; omega
  refine ⟨by rw [ek]; omega, by rw [ek]; omega, fun pz hpz => ?_⟩
  rw [ek]
  refine ⟨fun i acc M' => Ext M2 M' ∧ M' pz = some (.lst acc) ∧ acc = wds (List.replicate i 0), ⟨Ext.new hpz, updM_same, rfl⟩, fun _ _ _ _ => trivial, ?_, ?_⟩
  · rintro i acc M3 d hd ⟨hx3, hm3, rfl⟩
    obtain ⟨hi, rfl⟩ := rng_at hd
    refine ⟨fun _ => ⟨hm3, tolist ?_, hx3.mut hpz, updM_same, ?_⟩, fun hc => absurd hc (by decide)⟩
    · rw [wds_len, List.length_replicate]; omega
    · rw [List.replicate_succ', wds_snoc]; rfl
  rintro acc M3 ⟨hx3, hm3, rfl⟩
  rw [rng_len, show ((b.r - row.length : Nat) : Int).toNat = b.r - row.length by omega] at hm3
  refine ⟨_, hm3, ?_⟩
  have e : wds row ++ wds (List.replicate (b.r - row.length) 0) = wds (row ++ List.replicate (b.r - row.length) 0) := by unfold wds; rw [List.map_append]
  refine ⟨tolist (by rw [wds_len, wds_len, List.length_replicate]; omega) |> Nat.le_of_lt, ?_⟩
  rw [e]
  refine ⟨_, rfl, by rw [List.length_append, List.length_replicate]; omega, fun M4 x4 => ?_⟩
  walk_at "if"
  have x24 := hx3.trans x4
  exact t16 (L2.ext x24) so co (x24 _ _ (d2.ex _ _ qcc (hx.ex _ _ qcc hc))) hQ
theorem t12 (L0 : LI cl CB p c a aw ad x b M0) (d0 : Dr c M0 M) (hq0 : M0 qc = none) (co : CoI code) (hst : ∀ s ∈ code, isStep b s = true) (hc : M qc = some (.lst (stepsD code))) (hQ : ∀ M', Q (.bl true) M') :
    b_lw12 CB (sp_is_step cl CB) sp_take sp_lspoilt sp_is_state (sp_begin_state cl CB) (sp_lbad cl CB) sp_ldeed sp_lafter (sp_step_state cl CB) (sp_check_code cl CB) sp_whole (sp_code_price cl CB) (sp_run_code cl CB) (En Q) (LE s0 m p c a x q qc x8 (some (.int (fbI (firstBad b code)))) x10 x11 x12 x13 x14 x15 x16 x17 x18) M := by
  have ok := L0.ok
  have qcc := L0.dw.cne hq0
  have cl1 := co.co.len
  refine .inl ⟨_, hc, fun h0 => ?_, fun _ => ?_⟩
  rotate_left
  · walk_at "if"
    exact t13 L0 d0 hq0 co hc hQ
  have h0 : decide ((0 : Int) < ((stepsD code).length : Nat)) = true := h0
  have h0 := of_decide_eq_true h0
  rw [stepsD_len] at h0
  have hpos : 0 < code.length := by omega
  have L := L0.go d0
  refine ⟨p, c, 2, rfl, by decide, L.dw, fun r hr M1 d1 => ?_⟩
  have d01 := d0.trans d1
  refine ⟨fun _ => ?_, fun _ => t13 L0 d01 hq0 co (d1.ex _ _ qcc hc) hQ⟩
  refine ⟨p, c, 1009, rfl, by decide, (L0.go d01).dw, fun r2 hr2 M2 d2 => ?_⟩
  have d02 := d01.trans d2
  have hc2 := d2.ex _ _ qcc (d1.ex _ _ qcc hc)
  have L2 := L0.go d02
  refine .inl ⟨_, hc2, by rw [stepsD_len]; exact h0, ?_⟩
  have em : (r2 : Int) % ((stepsD code).length : Int) = ((r2 % code.length : Nat) : Int) := by rw [stepsD_len]; push_cast; rfl
  dsimp only
  rw [em]
  have hi : r2 % code.length < code.length := Nat.mod_lt _ hpos
  generalize r2 % code.length = i at hi
  have hat := getE hi
  have hs := hst _ (List.getElem_mem hi)
  have hsrc := co.co.src _ (List.getElem_mem hi)
  generalize code[i] = s at hat hs hsrc
  refine ⟨x, _, rfl, L2.bm.at_, rfl, .inl ⟨_, _, _, hc2, rfl, atI_nat (stepsD_at hat), ?_⟩⟩
  refine ⟨x, b, s, rfl, L2.bm, ok, hsrc, fun M3 x3 => ?_⟩
  rw [hs]
  have d03 := d02.trans (.ofExt x3)
  have L3 := L0.go d03
  refine .inl ⟨_, _, _, x3 _ _ hc2, rfl, atI_nat (stepsD_at hat), ?_⟩
  refine ⟨p, c, a, aw, ad, b, s, rfl, L3.dw, L3.da, L3.n0, L3.n1, L3.n2, ok, hs, L3.nz.zz, fun s' M4 hbad hlen hnm d4 => ?_⟩
  have d04 := d03.trans d4
  refine .inl ⟨_, _, i, d4.ex _ _ qcc (x3 _ _ hc2), rfl, ixN_nat (by rw [stepsD_len]; exact hi), ?_⟩
  have d05 : Dr c M0 (updM M4 qc (.lst ((stepsD code).set i (stD s')))) := d04.mut L0.dw.cur hq0
  have hc5 : updM M4 qc (.lst ((stepsD code).set i (stD s'))) qc = some (.lst (stepsD (code.set i s'))) := by
    rw [updM_same]; unfold stepsD; rw [List.map_set]
  have L5 := L0.go d05
  have hat5 : (code.set i s')[i]? = some s' := List.getElem?_set_self hi
  have sub : ∀ y ∈ code.set i s', y ∈ code ∨ y = s' := fun y hy => List.mem_or_eq_of_mem_set hy
  have co5 : CoI (code.set i s') := ⟨⟨by rw [List.length_set]; exact cl1, fun y hy => by
    rcases sub y hy with h | rfl
    · exact co.co.src y h
    · omega⟩, fun y hy => by
    rcases sub y hy with h | rfl
    · exact co.nm y h
    · exact hnm.2⟩
  have hf := fb_spoilt hst hi hbad
  generalize updM M4 qc (.lst ((stepsD code).set i (stD s'))) = M5 at d05 hc5 L5
  refine ⟨_, rfl, ?_⟩
  walk_at "if"
  refine ⟨x, _, rfl, L5.bm.at_, rfl, .inl ⟨_, _, _, hc5, rfl, atI_nat (stepsD_at hat5), ?_⟩⟩
  refine ⟨x, b, s', rfl, L5.bm, ok, by omega, fun M6 x6 => ?_⟩
  rw [hbad]
  refine ⟨_, rfl, ?_⟩
  walk_at "if"
  have emin : (if (200 : Int) < (i : Int) then (200 : Int) else (i : Int)) = fbI (firstBad b (code.set i s')) := by
    rw [hf]
    show _ = ((min i 200 : Nat) : Int)
    split <;> omega
  have := t13 (x8 := x8) (x10 := some (.int (i : Nat))) (x11 := some (.bl true)) (x12 := x12) (x13 := x13) (x14 := x14) (x15 := x15) (x16 := x16) (x17 := x17) (x18 := x18) (s0 := s0) (m := m) (q := q) L0 (d05.trans (.ofExt x6)) hq0 co5 (x6 _ _ hc5) hQ
  rw [← emin] at this
  exact this
theorem t10 (L0 : LI cl CB p c a aw ad x b M0) (d0 : Dr c M0 M) (hq0 : M0 qc = none) (co : CoI code) (hst : ∀ s ∈ code, isStep b s = true) (hc : M qc = some (.lst (stepsD code))) (hQ : ∀ M', Q (.bl true) M') :
    b_lw10 CB (sp_is_step cl CB) sp_take sp_lspoilt sp_is_state (sp_begin_state cl CB) (sp_lbad cl CB) sp_ldeed sp_lafter (sp_step_state cl CB) (sp_check_code cl CB) sp_whole (sp_code_price cl CB) (sp_run_code cl CB) (En Q) (LE s0 m p c a x q qc x8 x9 x10 x11 x12 x13 x14 x15 x16 x17 x18) M := by
  have hf : firstBad b code = if 200 < 0 + code.length then some 200 else none := fb_all hst (by decide)
  refine .inl ⟨_, hc, fun h0 => ?_, fun h0 => ?_⟩
  · have h0 : decide ((200 : Int) < ((stepsD code).length : Nat)) = true := h0
    have h0 := of_decide_eq_true h0
    rw [stepsD_len] at h0
    rw [if_pos (by omega)] at hf
    have := t12 (x8 := x8) (x10 := x10) (x11 := x11) (x12 := x12) (x13 := x13) (x14 := x14) (x15 := x15) (x16 := x16) (x17 := x17) (x18 := x18) (s0 := s0) (m := m) (q := q) L0 d0 hq0 co hst hc hQ
    rw [hf] at this
    exact this
  · have h0 : decide ((200 : Int) < ((stepsD code).length : Nat)) = false := h0
    have h0 := of_decide_eq_false h0
    rw [stepsD_len] at h0
    rw [if_neg (by omega)] at hf
    have := t12 (x8 := x8) (x10 := x10) (x11 := x11) (x12 := x12) (x13 := x13) (x14 := x14) (x15 := x15) (x16 := x16) (x17 := x17) (x18 := x18) (s0 := s0) (m := m) (q := q) L0 d0 hq0 co hst hc hQ
    rw [hf] at this
    exact this
/-- the code list is drawn -/
def b_lwC (s__law_take : DSp) (T : DS) : DS := dSeq (dAsg (dLst (dNil)) (.nm 7)) (dSeq (dFor (dRng1 (dCons (dVar 6) (dNil))) (.nm 8) (dIf (dtB (dOp oGt (dL oLen (dCons (dVar 5) (dNil))) (dC (.int 0)))) (dDrop (dApp (dVar 7) (dOp oIx (dVar 5) (dOp oMod (dOp oAdd (dOp oMul (dCall s__law_take (dCons (dVar 1) (dCons (dVar 2) (dCons (dC (.int 1009)) (dNil))))) (dC (.int 31))) (dCall s__law_take (dCons (dVar 1) (dCons (dVar 2) (dCons (dC (.int 31)) (dNil)))))) (dL oLen (dCons (dVar 5) (dNil))))))) (dNext))) T)
theorem t8 {T : DS} {n : Nat} (hn : n ≤ 300) (L : LI cl CB p c a aw ad x b M) (hqc : q ≠ c) (hq : M q = some (.lst (stepsD b.steps)))
    (k : ∀ (M' : Mm) (qc : Addr) (code : List ST) (x8 : Option D), M qc = none → Dr c M M' → CoI code → (∀ s ∈ code, isStep b s = true) → M' qc = some (.lst (stepsD code)) → T (En Q) (LE s0 (.int (n : Nat)) p c a x q qc x8 none none none none none none none none none none) M') :
    b_lwC sp_take T (En Q) [some s0, some (.ref p), some (.ref c), some (.ref a), some (.ref x), some (.ref q), some (.int (n : Nat)), none, none, none, none, none, none, none, none, none, none, none, none] M := by
  have ok := L.ok
  have sl := steps_len ok
  refine ⟨by show 0 ≤ sizeLine; decide, fun qc hq0 => ?_⟩
  have x1 : Ext M (updM M qc (.lst [])) := Ext.new hq0
  have m1 : updM M qc (.lst []) qc = some (.lst []) := updM_same
  generalize updM M qc (.lst []) = M1 at x1 m1 ⊢
  have qcc := L.dw.cne hq0
  refine ⟨by omega, by omega, ?_⟩
  refine ⟨fun i E M' => Dr c M M' ∧ ∃ code : List ST, M' qc = some (.lst (stepsD code)) ∧ code.length ≤ i ∧ (∀ s ∈ code, s ∈ b.steps) ∧ ∃ x8 : Option D, E = LE s0 (.int (n : Nat)) p c a x q qc x8 none none none none none none none none none none, ⟨.ofExt x1, [], m1, Nat.le_refl _, by simp, none, rfl⟩, fun _ _ _ _ => trivial, ?_, ?_⟩
  · rintro i E M' d hd ⟨hx, code, hm, hl, hmem, y8, rfl⟩
    obtain ⟨hi, rfl⟩ := rng_at hd
    have hi : i < n := by have : i < (n : Int).toNat := hi; omega
    have hq' := hx.ex _ _ hqc hq
    refine .inl ⟨_, hq', fun h0 => ?_, fun _ => ⟨hx, code, hm, by omega, hmem, _, rfl⟩⟩
    have h0 : decide ((0 : Int) < ((stepsD b.steps).length : Nat)) = true := h0
    have h0 := of_decide_eq_true h0
    refine ⟨⟨_, hm⟩, ?_⟩
    refine ⟨p, c, 1009, rfl, by decide, (L.go hx).dw, fun r1 hr1 M2 d2 => ?_⟩
    have hx2 := hx.trans d2
    refine ⟨.inl ⟨by omega, by omega⟩, p, c, 31, rfl, by decide, (L.go hx2).dw, fun r2 hr2 M3 d3 => ?_⟩
    have hx3 := hx2.trans d3
    have hq3 := hx3.ex _ _ hqc hq
    refine .inl ⟨_, hq3, h0, ?_⟩
    have em : ((r1 : Int) * 31 + (r2 : Int)) % ((stepsD b.steps).length : Int) = (((r1 * 31 + r2) % b.steps.length : Nat) : Int) := by rw [stepsD_len]; push_cast; rfl
    dsimp only
    rw [em]
    rw [stepsD_len] at h0
    have hj : (r1 * 31 + r2) % b.steps.length < b.steps.length := Nat.mod_lt _ (by omega)
    generalize (r1 * 31 + r2) % b.steps.length = j at hj
    have hat := getE hj
    have hs := List.getElem_mem hj
    generalize b.steps[j] = s at hat hs
    refine .inl ⟨_, _, _, hq3, rfl, atI_nat (stepsD_at hat), ?_⟩
    refine ⟨_, d3.ex _ _ qcc (d2.ex _ _ qcc hm), tolist (by rw [stepsD_len]; omega), hx3.mut L.dw.cur hq0, code ++ [s], ?_, by rw [List.length_append]; show code.length + 1 ≤ i + 1; omega, fun y hy => ?_, _, rfl⟩
    · rw [updM_same]; unfold stepsD; rw [List.map_append]; rfl
    · rcases List.mem_append.mp hy with hy | hy
      · exact hmem y hy
      · cases List.mem_singleton.mp hy; exact hs
  rintro E M' ⟨hx, code, hm, hl, hmem, y8, rfl⟩
  rw [rng_len, show ((n : Nat) : Int).toNat = n by omega] at hl
  have hst : ∀ s ∈ code, isStep b s = true := fun s hs => steps_ok ok (hmem s hs)
  exact k M' qc code y8 hq0 hx ⟨⟨by omega, fun s hs => by have := step_src (hst s hs); omega⟩, fun s hs => step_strOk ok (hst s hs)⟩ hst hm
theorem t6 (L : LI cl CB p c a aw ad x b M) (hqc : q ≠ c) (hq : M q = some (.lst (stepsD b.steps))) (hQ : ∀ M', Q (.bl true) M') :
    b_lw6 CB (sp_is_step cl CB) sp_take sp_lspoilt sp_is_state (sp_begin_state cl CB) (sp_lbad cl CB) sp_ldeed sp_lafter (sp_step_state cl CB) (sp_check_code cl CB) sp_whole (sp_code_price cl CB) (sp_run_code cl CB) (En Q) [some s0, some (.ref p), some (.ref c), some (.ref a), some (.ref x), some (.ref q), none, none, none, none, none, none, none, none, none, none, none, none, none] M := by
  refine ⟨p, c, 7, rfl, by decide, L.dw, fun r hr M1 d1 => ?_⟩
  have L1 := L.go d1
  refine ⟨p, c, 16, rfl, by decide, L1.dw, fun r2 hr2 M2 d2 => ⟨fun _ => ?_, fun _ => ?_⟩⟩
  · have L2 := L1.go d2
    refine ⟨p, c, 14, rfl, by decide, L2.dw, fun r3 hr3 M3 d3 => ?_⟩
    have L3 := L2.go d3
    have := t8 (n := 190 + r3) (s0 := s0) (by omega) L3 hqc (d3.ex _ _ hqc (d2.ex _ _ hqc (d1.ex _ _ hqc hq))) (Q := Q) fun M' qc code x8 hq0 d0 co hst hc => t10 (x9 := none) (x10 := none) (x11 := none) (x12 := none) (x13 := none) (x14 := none) (x15 := none) (x16 := none) (x17 := none) (x18 := none) (s0 := s0) L3 d0 hq0 co hst hc hQ
    exact this
  · have L2 := L1.go d2
    exact t8 (n := r) (s0 := s0) (by omega) L2 hqc (d2.ex _ _ hqc (d1.ex _ _ hqc hq)) (Q := Q) fun M' qc code x8 hq0 d0 co hst hc => t10 L2 d0 hq0 co hst hc hQ
end
def sp_law : DSp := fun ds M Q _ => ∃ ns : List Int, ds = [.fl (ns.map D.int)] ∧ ns.length ≤ 63 ∧ ∀ M', Q (.bl true) M'
theorem r_law_v4 (cl : CF) (CB : Addr) (hcl : ClB cl CB) : ∀ ds M Q E, sp_law ds M Q E → b_law_v4 CB (sp_Book cl CB) (sp_is_step cl CB) sp_stream sp_lbook sp_lsteps (sp_lasked cl CB) sp_take sp_lspoilt sp_is_state (sp_begin_state cl CB) (sp_lbad cl CB) sp_ldeed sp_lafter (sp_step_state cl CB) (sp_check_code cl CB) sp_whole (sp_code_price cl CB) (sp_run_code cl CB) (En Q) (startD 19 ds) M := by
  rintro ds M Q E ⟨ns, rfl, h63, hQ⟩
  refine ⟨ns, 300, rfl, h63, by decide, by decide, fun p M1 hp0 x1 hnums => ?_⟩
  refine ⟨by show 1 ≤ sizeLine; decide, fun c hc => ?_⟩
  have dw : Dw p c (updM M1 c (.lst [.int 0])) := by
    obtain ⟨xs, e1, e2⟩ := hnums
    have hne : p ≠ c := fun z => by subst z; rw [hc] at e1; cases e1
    exact ⟨hne, ⟨xs, by rw [updM_ne hne]; exact e1, e2⟩, ⟨0, updM_same⟩⟩
  generalize updM M1 c (.lst [.int 0]) = M2 at dw
  refine ⟨p, c, rfl, dw, fun a aw ad b M3 ok nz da n0 n1 n2 d3 => ?_⟩
  have dw3 := dw.go d3
  refine .inl ⟨_, _, .int b.w, da.h0, rfl, at0, .inl ⟨_, _, .int b.r, da.h0, rfl, rfl, ?_⟩⟩
  refine .inl ⟨_, _, .ref aw, da.h0, rfl, rfl, _, da.h1, fun q1 hq1 => ?_⟩
  have xq1 := Ext.new (o := .lst (wds b.words)) hq1
  have mq1 : updM M3 q1 (.lst (wds b.words)) q1 = some (.lst (wds b.words)) := updM_same
  generalize updM M3 q1 (.lst (wds b.words)) = M4 at xq1 mq1 ⊢
  have da4 := da.ext xq1
  refine .inl ⟨_, _, .ref ad, da4.h0, rfl, rfl, _, da4.h2, fun q2 hq2 => ?_⟩
  have xq2 := Ext.new (o := .lst (b.deeds.map deedD)) hq2
  have mq2 : updM M4 q2 (.lst (b.deeds.map deedD)) q2 = some (.lst (b.deeds.map deedD)) := updM_same
  generalize updM M4 q2 (.lst (b.deeds.map deedD)) = M5 at xq2 mq2 ⊢
  have x5 := xq1.trans xq2
  refine fun x hx => ?_
  have xn : Ext M5 (updM M5 x (.ins CB [])) := Ext.new hx
  refine ⟨x, q1, q2, b, rfl, hcl, updM_same, xn _ _ (xq2 _ _ mq1), xn _ _ mq2, ok, fun M8 b8 bm => ⟨rfl, ?_⟩⟩
  have x58 : Ext M5 M8 := fun a' o h => by
    have hne : a' ≠ x := Ext.ne h hx
    exact b8 _ _ hne (xn _ _ h)
  have d8 : Dr c M3 M8 := .ofExt (x5.trans x58)
  have dw8 := dw3.go d8
  have da8 := da.go d8 n0 n1 n2
  have nx : x ≠ c := (dw3.go (.ofExt x5)).cne hx
  refine ⟨a, aw, ad, b, rfl, da8, ok, fun q M9 hq x9 hqm => ?_⟩
  have nq := dw8.cne hq
  have L9 : LI cl CB p c a aw ad x b M9 := ⟨dw8.go (.ofExt x9), da8.ext x9, bm.ext x9, n0, n1, n2, nx, ok, nz⟩
  refine ⟨p, c, a, aw, ad, x, q, b, rfl, L9.dw, L9.da, L9.bm, ok, nz, hqm, n0, n1, n2, nx, nq, fun M10 d10 => ?_⟩
  walk_at "if"
  exact t6 (L9.go d10) nq (d10.ex _ _ nq hqm) hQ
end Rk

set_option Elab.async false
set_option linter.all false
set_option autoImplicit false
set_option maxRecDepth 100000
set_option maxHeartbeats 0
namespace K88e
open PySem PySem.Spec PyProof.Rows L2 DH Bd K88
abbrev dd (x : Str) (i : Nat) : He.DefD := ⟨(x, none), x, x, defArgs (top i), defBody (top i), defScope (top i), [], []⟩
abbrev dm (c m q : Str) (i j : Nat) : He.DefD := ⟨(c, some m), m, q, defArgs (met i j), defBody (met i j), defScope (met i j), [], []⟩
def fn0 : List He.DefD := [dd "word_limit" 8, dd "signed_value" 9, dd "operate_one" 10, dd "operate_bits" 11, dd "operate_sum" 12, dd "operate_order" 13, dd "operate" 14, dd "is_name" 19, dd "formula_size" 20, dd "is_shaped" 21, dd "is_formula" 22, dd "formula_names" 23]
def fn1 : List He.DefD := [dd "formula_value" 24, dd "check_code" 27, dd "begin_state" 28, dd "step_word" 29, dd "step_state" 30, dd "run_code" 31, dd "code_price" 32, dd "source_count" 39, dd "takes_word" 40, dd "source_rows" 41, dd "step_count" 42, dd "bad_deed" 43]
def fn2 : List He.DefD := [dd "bad_words" 44, dd "first_bad_line" 45, dd "_law_mix" 47, dd "_law_stream" 48, dd "_law_take" 49, dd "_law_arity" 50, dd "_law_formula" 51, dd "_law_two" 52, dd "_law_value" 53, dd "_law_book" 54, dd "_law_names" 55, dd "_law_size" 56]
def fn3 : List He.DefD := [dd "_law_sources" 57, dd "_law_steps" 58, dd "_law_deed" 59, dd "_law_many" 60, dd "_law_counts" 61, dd "_law_after" 62, dd "_law_spoilt" 63, dd "_law_is_whole" 64, dd "_law_is_state" 65, dd "_law_bad" 66, dd "_law_unknown" 67, dd "_law_book_asked" 68]
def fn4 : List He.DefD := [dd "law" 69, dm "Book" "__init__" "Book.__init__" 38 0, dm "Book" "deed" "Book.deed" 38 1, dm "Book" "is_step" "Book.is_step" 38 2, dm "Book" "steps" "Book.steps" 38 3, dm "Book" "codes_within" "Book.codes_within" 38 4, dm "BadCode" "__init__" "BadCode.__init__" 4 0, dm "NoName" "__init__" "NoName.__init__" 5 0]
def fn : List He.DefD := fn0 ++ (fn1 ++ (fn2 ++ (fn3 ++ (fn4))))
def fa0 : List He.Fa := [.glo "word_limit", .glo "signed_value", .glo "operate_one", .glo "operate_bits", .glo "operate_sum", .glo "operate_order", .glo "operate", .glo "is_name", .glo "formula_size", .glo "is_shaped", .glo "is_formula", .glo "formula_names", .glo "formula_value", .glo "check_code", .glo "begin_state"]
def fa1 : List He.Fa := [.glo "step_word", .glo "step_state", .glo "run_code", .glo "code_price", .glo "source_count", .glo "takes_word", .glo "source_rows", .glo "step_count", .glo "bad_deed", .glo "bad_words", .glo "first_bad_line", .glo "_law_mix", .glo "_law_stream", .glo "_law_take", .glo "_law_arity"]
def fa2 : List He.Fa := [.glo "_law_formula", .glo "_law_two", .glo "_law_value", .glo "_law_book", .glo "_law_names", .glo "_law_size", .glo "_law_sources", .glo "_law_steps", .glo "_law_deed", .glo "_law_many", .glo "_law_counts", .glo "_law_after", .glo "_law_spoilt", .glo "_law_is_whole", .glo "_law_is_state"]
def fa3 : List He.Fa := [.glo "_law_bad", .glo "_law_unknown", .glo "_law_book_asked", .glo "law", .glo "ARITY", .str "LETTERS" "abcdefghijklmnopqrstuvwxyz", .str "DIGITS" "0123456789", .int "MOST_DEPTH" 6, .int "MOST_STEPS" 200, .int "MOST_STATE_BITS" 8, .int "MOST_DEEDS" 6, .int "MOST_PRICE" 9, .int "DEED_SIZE" 9, .free "ValueError", .free "abs"]
def fa4 : List He.Fa := [.free "all", .free "bool", .free "int", .free "isinstance", .free "len", .free "list", .free "min", .free "range", .free "str", .free "sum", .free "tuple", .free "zip", .glo "Book", .cls "Book", .mkr "Book"]
def fa5 : List He.Fa := [.noat "Book" "width", .noat "Book" "registers", .noat "Book" "words", .noat "Book" "deeds", .meth "Book" "deed", .meth "Book" "is_step", .meth "Book" "steps", .meth "Book" "codes_within", .glo "BadCode", .glo "BadText", .glo "NoName", .glo "NoneshorterError"]
def fa : List He.Fa := fa0 ++ (fa1 ++ (fa2 ++ (fa3 ++ (fa4 ++ (fa5)))))
def ts : List He.Tab := [(fun K => He.ga K "ARITY", kv_ARITY.map (·.1))]
def ex (K : PySem.W.Frag) : Bool := He.valsB K (He.ga K "ARITY") (kv_ARITY.map fun q => (q.1, toDv q.2)) && (excB K (He.ga K "BadCode") "at" && (excB K (He.ga K "NoName") "name" && (baseB K (He.ga K "NoneshorterError") && (xcB K (He.ga K "BadCode") "at" && (xcB K (He.ga K "NoName") "name" && (oB (PySem.W.exmOne K (.ref (He.ga K "NoName")) (.ref (He.ga K "NoName"))) true && (oB (PySem.W.kitOne K (.ref (He.ga K "NoName")) (.ref (He.ga K "NoneshorterError"))) true && (oB (PySem.W.exmOne K (.ref (He.ga K "BadCode")) (.ref (He.ga K "BadCode"))) true && (oB (PySem.W.kitOne K (.ref (He.ga K "BadCode")) (.ref (He.ga K "NoneshorterError"))) true && (oB (PySem.W.kitOne K (.ref (He.ga K "BadCode")) (.ref (He.ga K "BadText"))) false))))))))))
def names0 : List PySem.Str := ["NoneshorterError", "BadText", "BadBook", "BadCode", "NoName", "ARITY", "word_limit", "signed_value", "operate_one", "operate_bits", "operate_sum", "operate_order", "operate", "LETTERS", "DIGITS"]
def names1 : List PySem.Str := ["MOST_DEPTH", "is_name", "formula_size", "is_shaped", "is_formula", "formula_names", "formula_value", "MOST_STEPS", "check_code", "begin_state", "step_word", "step_state", "run_code", "code_price", "MOST_STATE_BITS"]
def names2 : List PySem.Str := ["MOST_DEEDS", "MOST_PRICE", "DEED_SIZE", "Book", "source_count", "takes_word", "source_rows", "step_count", "bad_deed", "bad_words", "first_bad_line", "_law_mix", "_law_stream", "_law_take", "_law_arity"]
def names3 : List PySem.Str := ["_law_formula", "_law_two", "_law_value", "_law_book", "_law_names", "_law_size", "_law_sources", "_law_steps", "_law_deed", "_law_many", "_law_counts", "_law_after", "_law_spoilt", "_law_is_whole", "_law_is_state"]
def names4 : List PySem.Str := ["_law_bad", "_law_unknown", "_law_book_asked"]
def names : List PySem.Str := names0 ++ names1 ++ names2 ++ names3 ++ names4
abbrev R : PySem.W.OpenRow := PySem.W.OpenLaw.row PySem.Challenge.rw_noneshorter_k88_book_runs
abbrev hk : PySem.W.Hook := hookY 4 fa fn ts ex
def ob (s : PySem.W.SharedT) : He.AlX := obsY 4 fa fn ts ex (HandSHeadRun.getT s)
theorem ob_eq (s : PySem.W.SharedT) : ob s = hk.obs s.abs := obsY_eq (HandSHeadRun.getT_eq s)
theorem run_f (w : World) : HandSHeadRun.RunEq R (PySem.W.view R.prog [69]) hk ob 12000 names (w.withFollow "special-get-raises" false) := by
  intro os
  kernel_rfl
theorem run_t (w : World) : HandSHeadRun.RunEq R (PySem.W.view R.prog [69]) hk ob 12000 names (w.withFollow "special-get-raises" true) := by
  intro os
  kernel_rfl
theorem run (w : World) : HandSHeadRun.RunEq R (PySem.W.view R.prog [69]) hk ob 12000 names w := PySem.W.byRow2 "special-get-raises" (P := fun w => HandSHeadRun.RunEq R (PySem.W.view R.prog [69]) hk ob 12000 names w) run_f run_t w
section
variable {P : Program} {w : World} {K : PySem.W.Frag} {h : Heap} {mg : Str → Option Value} {base : Heap}
theorem gb (X : K.In h) (G : h.Ns mainGlobals mg) (c : He.SaysX fa fn ts [] ex w h K) : Gb K w mg where
  ValueError := He.free_ok X G (c.t.d.fact 58 (f := .free "ValueError") rfl)
  abs := He.free_ok X G (c.t.d.fact 59 (f := .free "abs") rfl)
  all := He.free_ok X G (c.t.d.fact 60 (f := .free "all") rfl)
  bool := He.free_ok X G (c.t.d.fact 61 (f := .free "bool") rfl)
  int := He.free_ok X G (c.t.d.fact 62 (f := .free "int") rfl)
  isinstance := He.free_ok X G (c.t.d.fact 63 (f := .free "isinstance") rfl)
  len := He.free_ok X G (c.t.d.fact 64 (f := .free "len") rfl)
  list := He.free_ok X G (c.t.d.fact 65 (f := .free "list") rfl)
  min := He.free_ok X G (c.t.d.fact 66 (f := .free "min") rfl)
  range := He.free_ok X G (c.t.d.fact 67 (f := .free "range") rfl)
  str := He.free_ok X G (c.t.d.fact 68 (f := .free "str") rfl)
  sum := He.free_ok X G (c.t.d.fact 69 (f := .free "sum") rfl)
  tuple := He.free_ok X G (c.t.d.fact 70 (f := .free "tuple") rfl)
  zip := He.free_ok X G (c.t.d.fact 71 (f := .free "zip") rfl)
  c_ARITY := ⟨_, He.glo_ok X G (c.t.d.fact 49 (f := .glo "ARITY") rfl), kdAt_of (tab_of c.t 0 (t := (fun K => He.ga K "ARITY", kv_ARITY.map (·.1))) rfl) (He.ba c.more).1 (by decide) (by decide +kernel)⟩
  c_LETTERS := He.str_ok X G (c.t.d.fact 50 (f := .str "LETTERS" "abcdefghijklmnopqrstuvwxyz") rfl)
  c_DIGITS := He.str_ok X G (c.t.d.fact 51 (f := .str "DIGITS" "0123456789") rfl)
  c_MOST_DEPTH := He.int_ok X G (c.t.d.fact 52 (f := .int "MOST_DEPTH" 6) rfl)
  c_MOST_STEPS := He.int_ok X G (c.t.d.fact 53 (f := .int "MOST_STEPS" 200) rfl)
  c_MOST_STATE_BITS := He.int_ok X G (c.t.d.fact 54 (f := .int "MOST_STATE_BITS" 8) rfl)
  c_MOST_DEEDS := He.int_ok X G (c.t.d.fact 55 (f := .int "MOST_DEEDS" 6) rfl)
  c_MOST_PRICE := He.int_ok X G (c.t.d.fact 56 (f := .int "MOST_PRICE" 9) rfl)
  c_DEED_SIZE := He.int_ok X G (c.t.d.fact 57 (f := .int "DEED_SIZE" 9) rfl)
theorem t_word_limit (X : K.In h) (G : h.Ns mainGlobals mg) (c : He.SaysX fa fn ts [] ex w h K) : Top K mg "word_limit" (top 8) :=
  let ⟨fd, F⟩ := c.t.d.def_ 0 (d := dd "word_limit" 8) rfl; ⟨_, fd, F, He.glo_ok X G (c.t.d.fact 0 (f := .glo "word_limit") rfl)⟩
theorem t_signed_value (X : K.In h) (G : h.Ns mainGlobals mg) (c : He.SaysX fa fn ts [] ex w h K) : Top K mg "signed_value" (top 9) :=
  let ⟨fd, F⟩ := c.t.d.def_ 1 (d := dd "signed_value" 9) rfl; ⟨_, fd, F, He.glo_ok X G (c.t.d.fact 1 (f := .glo "signed_value") rfl)⟩
theorem t_operate_one (X : K.In h) (G : h.Ns mainGlobals mg) (c : He.SaysX fa fn ts [] ex w h K) : Top K mg "operate_one" (top 10) :=
  let ⟨fd, F⟩ := c.t.d.def_ 2 (d := dd "operate_one" 10) rfl; ⟨_, fd, F, He.glo_ok X G (c.t.d.fact 2 (f := .glo "operate_one") rfl)⟩
theorem t_operate_bits (X : K.In h) (G : h.Ns mainGlobals mg) (c : He.SaysX fa fn ts [] ex w h K) : Top K mg "operate_bits" (top 11) :=
  let ⟨fd, F⟩ := c.t.d.def_ 3 (d := dd "operate_bits" 11) rfl; ⟨_, fd, F, He.glo_ok X G (c.t.d.fact 3 (f := .glo "operate_bits") rfl)⟩
theorem t_operate_sum (X : K.In h) (G : h.Ns mainGlobals mg) (c : He.SaysX fa fn ts [] ex w h K) : Top K mg "operate_sum" (top 12) :=
  let ⟨fd, F⟩ := c.t.d.def_ 4 (d := dd "operate_sum" 12) rfl; ⟨_, fd, F, He.glo_ok X G (c.t.d.fact 4 (f := .glo "operate_sum") rfl)⟩
theorem t_operate_order (X : K.In h) (G : h.Ns mainGlobals mg) (c : He.SaysX fa fn ts [] ex w h K) : Top K mg "operate_order" (top 13) :=
  let ⟨fd, F⟩ := c.t.d.def_ 5 (d := dd "operate_order" 13) rfl; ⟨_, fd, F, He.glo_ok X G (c.t.d.fact 5 (f := .glo "operate_order") rfl)⟩
theorem t_operate (X : K.In h) (G : h.Ns mainGlobals mg) (c : He.SaysX fa fn ts [] ex w h K) : Top K mg "operate" (top 14) :=
  let ⟨fd, F⟩ := c.t.d.def_ 6 (d := dd "operate" 14) rfl; ⟨_, fd, F, He.glo_ok X G (c.t.d.fact 6 (f := .glo "operate") rfl)⟩
theorem t_is_name (X : K.In h) (G : h.Ns mainGlobals mg) (c : He.SaysX fa fn ts [] ex w h K) : Top K mg "is_name" (top 19) :=
  let ⟨fd, F⟩ := c.t.d.def_ 7 (d := dd "is_name" 19) rfl; ⟨_, fd, F, He.glo_ok X G (c.t.d.fact 7 (f := .glo "is_name") rfl)⟩
theorem t_formula_size (X : K.In h) (G : h.Ns mainGlobals mg) (c : He.SaysX fa fn ts [] ex w h K) : Top K mg "formula_size" (top 20) :=
  let ⟨fd, F⟩ := c.t.d.def_ 8 (d := dd "formula_size" 20) rfl; ⟨_, fd, F, He.glo_ok X G (c.t.d.fact 8 (f := .glo "formula_size") rfl)⟩
theorem t_is_shaped (X : K.In h) (G : h.Ns mainGlobals mg) (c : He.SaysX fa fn ts [] ex w h K) : Top K mg "is_shaped" (top 21) :=
  let ⟨fd, F⟩ := c.t.d.def_ 9 (d := dd "is_shaped" 21) rfl; ⟨_, fd, F, He.glo_ok X G (c.t.d.fact 9 (f := .glo "is_shaped") rfl)⟩
theorem t_is_formula (X : K.In h) (G : h.Ns mainGlobals mg) (c : He.SaysX fa fn ts [] ex w h K) : Top K mg "is_formula" (top 22) :=
  let ⟨fd, F⟩ := c.t.d.def_ 10 (d := dd "is_formula" 22) rfl; ⟨_, fd, F, He.glo_ok X G (c.t.d.fact 10 (f := .glo "is_formula") rfl)⟩
theorem t_formula_names (X : K.In h) (G : h.Ns mainGlobals mg) (c : He.SaysX fa fn ts [] ex w h K) : Top K mg "formula_names" (top 23) :=
  let ⟨fd, F⟩ := c.t.d.def_ 11 (d := dd "formula_names" 23) rfl; ⟨_, fd, F, He.glo_ok X G (c.t.d.fact 11 (f := .glo "formula_names") rfl)⟩
theorem t_formula_value (X : K.In h) (G : h.Ns mainGlobals mg) (c : He.SaysX fa fn ts [] ex w h K) : Top K mg "formula_value" (top 24) :=
  let ⟨fd, F⟩ := c.t.d.def_ 12 (d := dd "formula_value" 24) rfl; ⟨_, fd, F, He.glo_ok X G (c.t.d.fact 12 (f := .glo "formula_value") rfl)⟩
theorem t_check_code (X : K.In h) (G : h.Ns mainGlobals mg) (c : He.SaysX fa fn ts [] ex w h K) : Top K mg "check_code" (top 27) :=
  let ⟨fd, F⟩ := c.t.d.def_ 13 (d := dd "check_code" 27) rfl; ⟨_, fd, F, He.glo_ok X G (c.t.d.fact 13 (f := .glo "check_code") rfl)⟩
theorem t_begin_state (X : K.In h) (G : h.Ns mainGlobals mg) (c : He.SaysX fa fn ts [] ex w h K) : Top K mg "begin_state" (top 28) :=
  let ⟨fd, F⟩ := c.t.d.def_ 14 (d := dd "begin_state" 28) rfl; ⟨_, fd, F, He.glo_ok X G (c.t.d.fact 14 (f := .glo "begin_state") rfl)⟩
theorem t_step_word (X : K.In h) (G : h.Ns mainGlobals mg) (c : He.SaysX fa fn ts [] ex w h K) : Top K mg "step_word" (top 29) :=
  let ⟨fd, F⟩ := c.t.d.def_ 15 (d := dd "step_word" 29) rfl; ⟨_, fd, F, He.glo_ok X G (c.t.d.fact 15 (f := .glo "step_word") rfl)⟩
theorem t_step_state (X : K.In h) (G : h.Ns mainGlobals mg) (c : He.SaysX fa fn ts [] ex w h K) : Top K mg "step_state" (top 30) :=
  let ⟨fd, F⟩ := c.t.d.def_ 16 (d := dd "step_state" 30) rfl; ⟨_, fd, F, He.glo_ok X G (c.t.d.fact 16 (f := .glo "step_state") rfl)⟩
theorem t_run_code (X : K.In h) (G : h.Ns mainGlobals mg) (c : He.SaysX fa fn ts [] ex w h K) : Top K mg "run_code" (top 31) :=
  let ⟨fd, F⟩ := c.t.d.def_ 17 (d := dd "run_code" 31) rfl; ⟨_, fd, F, He.glo_ok X G (c.t.d.fact 17 (f := .glo "run_code") rfl)⟩
theorem t_code_price (X : K.In h) (G : h.Ns mainGlobals mg) (c : He.SaysX fa fn ts [] ex w h K) : Top K mg "code_price" (top 32) :=
  let ⟨fd, F⟩ := c.t.d.def_ 18 (d := dd "code_price" 32) rfl; ⟨_, fd, F, He.glo_ok X G (c.t.d.fact 18 (f := .glo "code_price") rfl)⟩
theorem t_source_count (X : K.In h) (G : h.Ns mainGlobals mg) (c : He.SaysX fa fn ts [] ex w h K) : Top K mg "source_count" (top 39) :=
  let ⟨fd, F⟩ := c.t.d.def_ 19 (d := dd "source_count" 39) rfl; ⟨_, fd, F, He.glo_ok X G (c.t.d.fact 19 (f := .glo "source_count") rfl)⟩
theorem t_takes_word (X : K.In h) (G : h.Ns mainGlobals mg) (c : He.SaysX fa fn ts [] ex w h K) : Top K mg "takes_word" (top 40) :=
  let ⟨fd, F⟩ := c.t.d.def_ 20 (d := dd "takes_word" 40) rfl; ⟨_, fd, F, He.glo_ok X G (c.t.d.fact 20 (f := .glo "takes_word") rfl)⟩
theorem t_source_rows (X : K.In h) (G : h.Ns mainGlobals mg) (c : He.SaysX fa fn ts [] ex w h K) : Top K mg "source_rows" (top 41) :=
  let ⟨fd, F⟩ := c.t.d.def_ 21 (d := dd "source_rows" 41) rfl; ⟨_, fd, F, He.glo_ok X G (c.t.d.fact 21 (f := .glo "source_rows") rfl)⟩
theorem t_step_count (X : K.In h) (G : h.Ns mainGlobals mg) (c : He.SaysX fa fn ts [] ex w h K) : Top K mg "step_count" (top 42) :=
  let ⟨fd, F⟩ := c.t.d.def_ 22 (d := dd "step_count" 42) rfl; ⟨_, fd, F, He.glo_ok X G (c.t.d.fact 22 (f := .glo "step_count") rfl)⟩
theorem t_bad_deed (X : K.In h) (G : h.Ns mainGlobals mg) (c : He.SaysX fa fn ts [] ex w h K) : Top K mg "bad_deed" (top 43) :=
  let ⟨fd, F⟩ := c.t.d.def_ 23 (d := dd "bad_deed" 43) rfl; ⟨_, fd, F, He.glo_ok X G (c.t.d.fact 23 (f := .glo "bad_deed") rfl)⟩
theorem t_bad_words (X : K.In h) (G : h.Ns mainGlobals mg) (c : He.SaysX fa fn ts [] ex w h K) : Top K mg "bad_words" (top 44) :=
  let ⟨fd, F⟩ := c.t.d.def_ 24 (d := dd "bad_words" 44) rfl; ⟨_, fd, F, He.glo_ok X G (c.t.d.fact 24 (f := .glo "bad_words") rfl)⟩
theorem t_first_bad_line (X : K.In h) (G : h.Ns mainGlobals mg) (c : He.SaysX fa fn ts [] ex w h K) : Top K mg "first_bad_line" (top 45) :=
  let ⟨fd, F⟩ := c.t.d.def_ 25 (d := dd "first_bad_line" 45) rfl; ⟨_, fd, F, He.glo_ok X G (c.t.d.fact 25 (f := .glo "first_bad_line") rfl)⟩
theorem t__law_mix (X : K.In h) (G : h.Ns mainGlobals mg) (c : He.SaysX fa fn ts [] ex w h K) : Top K mg "_law_mix" (top 47) :=
  let ⟨fd, F⟩ := c.t.d.def_ 26 (d := dd "_law_mix" 47) rfl; ⟨_, fd, F, He.glo_ok X G (c.t.d.fact 26 (f := .glo "_law_mix") rfl)⟩
theorem t__law_stream (X : K.In h) (G : h.Ns mainGlobals mg) (c : He.SaysX fa fn ts [] ex w h K) : Top K mg "_law_stream" (top 48) :=
  let ⟨fd, F⟩ := c.t.d.def_ 27 (d := dd "_law_stream" 48) rfl; ⟨_, fd, F, He.glo_ok X G (c.t.d.fact 27 (f := .glo "_law_stream") rfl)⟩
theorem t__law_take (X : K.In h) (G : h.Ns mainGlobals mg) (c : He.SaysX fa fn ts [] ex w h K) : Top K mg "_law_take" (top 49) :=
  let ⟨fd, F⟩ := c.t.d.def_ 28 (d := dd "_law_take" 49) rfl; ⟨_, fd, F, He.glo_ok X G (c.t.d.fact 28 (f := .glo "_law_take") rfl)⟩
theorem t__law_arity (X : K.In h) (G : h.Ns mainGlobals mg) (c : He.SaysX fa fn ts [] ex w h K) : Top K mg "_law_arity" (top 50) :=
  let ⟨fd, F⟩ := c.t.d.def_ 29 (d := dd "_law_arity" 50) rfl; ⟨_, fd, F, He.glo_ok X G (c.t.d.fact 29 (f := .glo "_law_arity") rfl)⟩
theorem t__law_formula (X : K.In h) (G : h.Ns mainGlobals mg) (c : He.SaysX fa fn ts [] ex w h K) : Top K mg "_law_formula" (top 51) :=
  let ⟨fd, F⟩ := c.t.d.def_ 30 (d := dd "_law_formula" 51) rfl; ⟨_, fd, F, He.glo_ok X G (c.t.d.fact 30 (f := .glo "_law_formula") rfl)⟩
theorem t__law_two (X : K.In h) (G : h.Ns mainGlobals mg) (c : He.SaysX fa fn ts [] ex w h K) : Top K mg "_law_two" (top 52) :=
  let ⟨fd, F⟩ := c.t.d.def_ 31 (d := dd "_law_two" 52) rfl; ⟨_, fd, F, He.glo_ok X G (c.t.d.fact 31 (f := .glo "_law_two") rfl)⟩
theorem t__law_value (X : K.In h) (G : h.Ns mainGlobals mg) (c : He.SaysX fa fn ts [] ex w h K) : Top K mg "_law_value" (top 53) :=
  let ⟨fd, F⟩ := c.t.d.def_ 32 (d := dd "_law_value" 53) rfl; ⟨_, fd, F, He.glo_ok X G (c.t.d.fact 32 (f := .glo "_law_value") rfl)⟩
theorem t__law_book (X : K.In h) (G : h.Ns mainGlobals mg) (c : He.SaysX fa fn ts [] ex w h K) : Top K mg "_law_book" (top 54) :=
  let ⟨fd, F⟩ := c.t.d.def_ 33 (d := dd "_law_book" 54) rfl; ⟨_, fd, F, He.glo_ok X G (c.t.d.fact 33 (f := .glo "_law_book") rfl)⟩
theorem t__law_names (X : K.In h) (G : h.Ns mainGlobals mg) (c : He.SaysX fa fn ts [] ex w h K) : Top K mg "_law_names" (top 55) :=
  let ⟨fd, F⟩ := c.t.d.def_ 34 (d := dd "_law_names" 55) rfl; ⟨_, fd, F, He.glo_ok X G (c.t.d.fact 34 (f := .glo "_law_names") rfl)⟩
theorem t__law_size (X : K.In h) (G : h.Ns mainGlobals mg) (c : He.SaysX fa fn ts [] ex w h K) : Top K mg "_law_size" (top 56) :=
  let ⟨fd, F⟩ := c.t.d.def_ 35 (d := dd "_law_size" 56) rfl; ⟨_, fd, F, He.glo_ok X G (c.t.d.fact 35 (f := .glo "_law_size") rfl)⟩
theorem t__law_sources (X : K.In h) (G : h.Ns mainGlobals mg) (c : He.SaysX fa fn ts [] ex w h K) : Top K mg "_law_sources" (top 57) :=
  let ⟨fd, F⟩ := c.t.d.def_ 36 (d := dd "_law_sources" 57) rfl; ⟨_, fd, F, He.glo_ok X G (c.t.d.fact 36 (f := .glo "_law_sources") rfl)⟩
theorem t__law_steps (X : K.In h) (G : h.Ns mainGlobals mg) (c : He.SaysX fa fn ts [] ex w h K) : Top K mg "_law_steps" (top 58) :=
  let ⟨fd, F⟩ := c.t.d.def_ 37 (d := dd "_law_steps" 58) rfl; ⟨_, fd, F, He.glo_ok X G (c.t.d.fact 37 (f := .glo "_law_steps") rfl)⟩
theorem t__law_deed (X : K.In h) (G : h.Ns mainGlobals mg) (c : He.SaysX fa fn ts [] ex w h K) : Top K mg "_law_deed" (top 59) :=
  let ⟨fd, F⟩ := c.t.d.def_ 38 (d := dd "_law_deed" 59) rfl; ⟨_, fd, F, He.glo_ok X G (c.t.d.fact 38 (f := .glo "_law_deed") rfl)⟩
theorem t__law_many (X : K.In h) (G : h.Ns mainGlobals mg) (c : He.SaysX fa fn ts [] ex w h K) : Top K mg "_law_many" (top 60) :=
  let ⟨fd, F⟩ := c.t.d.def_ 39 (d := dd "_law_many" 60) rfl; ⟨_, fd, F, He.glo_ok X G (c.t.d.fact 39 (f := .glo "_law_many") rfl)⟩
theorem t__law_counts (X : K.In h) (G : h.Ns mainGlobals mg) (c : He.SaysX fa fn ts [] ex w h K) : Top K mg "_law_counts" (top 61) :=
  let ⟨fd, F⟩ := c.t.d.def_ 40 (d := dd "_law_counts" 61) rfl; ⟨_, fd, F, He.glo_ok X G (c.t.d.fact 40 (f := .glo "_law_counts") rfl)⟩
theorem t__law_after (X : K.In h) (G : h.Ns mainGlobals mg) (c : He.SaysX fa fn ts [] ex w h K) : Top K mg "_law_after" (top 62) :=
  let ⟨fd, F⟩ := c.t.d.def_ 41 (d := dd "_law_after" 62) rfl; ⟨_, fd, F, He.glo_ok X G (c.t.d.fact 41 (f := .glo "_law_after") rfl)⟩
theorem t__law_spoilt (X : K.In h) (G : h.Ns mainGlobals mg) (c : He.SaysX fa fn ts [] ex w h K) : Top K mg "_law_spoilt" (top 63) :=
  let ⟨fd, F⟩ := c.t.d.def_ 42 (d := dd "_law_spoilt" 63) rfl; ⟨_, fd, F, He.glo_ok X G (c.t.d.fact 42 (f := .glo "_law_spoilt") rfl)⟩
theorem t__law_is_whole (X : K.In h) (G : h.Ns mainGlobals mg) (c : He.SaysX fa fn ts [] ex w h K) : Top K mg "_law_is_whole" (top 64) :=
  let ⟨fd, F⟩ := c.t.d.def_ 43 (d := dd "_law_is_whole" 64) rfl; ⟨_, fd, F, He.glo_ok X G (c.t.d.fact 43 (f := .glo "_law_is_whole") rfl)⟩
theorem t__law_is_state (X : K.In h) (G : h.Ns mainGlobals mg) (c : He.SaysX fa fn ts [] ex w h K) : Top K mg "_law_is_state" (top 65) :=
  let ⟨fd, F⟩ := c.t.d.def_ 44 (d := dd "_law_is_state" 65) rfl; ⟨_, fd, F, He.glo_ok X G (c.t.d.fact 44 (f := .glo "_law_is_state") rfl)⟩
theorem t__law_bad (X : K.In h) (G : h.Ns mainGlobals mg) (c : He.SaysX fa fn ts [] ex w h K) : Top K mg "_law_bad" (top 66) :=
  let ⟨fd, F⟩ := c.t.d.def_ 45 (d := dd "_law_bad" 66) rfl; ⟨_, fd, F, He.glo_ok X G (c.t.d.fact 45 (f := .glo "_law_bad") rfl)⟩
theorem t__law_unknown (X : K.In h) (G : h.Ns mainGlobals mg) (c : He.SaysX fa fn ts [] ex w h K) : Top K mg "_law_unknown" (top 67) :=
  let ⟨fd, F⟩ := c.t.d.def_ 46 (d := dd "_law_unknown" 67) rfl; ⟨_, fd, F, He.glo_ok X G (c.t.d.fact 46 (f := .glo "_law_unknown") rfl)⟩
theorem t__law_book_asked (X : K.In h) (G : h.Ns mainGlobals mg) (c : He.SaysX fa fn ts [] ex w h K) : Top K mg "_law_book_asked" (top 68) :=
  let ⟨fd, F⟩ := c.t.d.def_ 47 (d := dd "_law_book_asked" 68) rfl; ⟨_, fd, F, He.glo_ok X G (c.t.d.fact 47 (f := .glo "_law_book_asked") rfl)⟩
theorem cl_Book (c : He.SaysX fa fn ts [] ex w h K) : ∀ f ∈ (["width", "registers", "words", "deeds"] : List Str), (fun C f => Cls K C ∧ NoAttr K C f) (He.ga K "Book") f := fun f hf => by
  refine ⟨He.cls_ok (c.t.d.fact 73 (f := .cls "Book") rfl), ?_⟩
  simp only [List.mem_cons, List.not_mem_nil, or_false] at hf
  rcases hf with rfl | rfl | rfl | rfl
  · exact He.noat_ok (c.t.d.fact 75 (f := .noat "Book" "width") rfl)
  · exact He.noat_ok (c.t.d.fact 76 (f := .noat "Book" "registers") rfl)
  · exact He.noat_ok (c.t.d.fact 77 (f := .noat "Book" "words") rfl)
  · exact He.noat_ok (c.t.d.fact 78 (f := .noat "Book" "deeds") rfl)
theorem x_sub_NoName_NoName (c : He.SaysX fa fn ts [] ex w h K) : PySem.W.exmOne K (.ref (He.ga K "NoName")) (.ref (He.ga K "NoName")) = some true := oB_ok (He.ba (He.ba (He.ba (He.ba (He.ba (He.ba (He.ba c.more).2).2).2).2).2).2).1
theorem x_kit_NoName_NoneshorterError (c : He.SaysX fa fn ts [] ex w h K) : PySem.W.kitOne K (.ref (He.ga K "NoName")) (.ref (He.ga K "NoneshorterError")) = some true := oB_ok (He.ba (He.ba (He.ba (He.ba (He.ba (He.ba (He.ba (He.ba c.more).2).2).2).2).2).2).2).1
theorem x_sub_BadCode_BadCode (c : He.SaysX fa fn ts [] ex w h K) : PySem.W.exmOne K (.ref (He.ga K "BadCode")) (.ref (He.ga K "BadCode")) = some true := oB_ok (He.ba (He.ba (He.ba (He.ba (He.ba (He.ba (He.ba (He.ba (He.ba c.more).2).2).2).2).2).2).2).2).1
theorem x_kit_BadCode_NoneshorterError (c : He.SaysX fa fn ts [] ex w h K) : PySem.W.kitOne K (.ref (He.ga K "BadCode")) (.ref (He.ga K "NoneshorterError")) = some true := oB_ok (He.ba (He.ba (He.ba (He.ba (He.ba (He.ba (He.ba (He.ba (He.ba (He.ba c.more).2).2).2).2).2).2).2).2).2).1
theorem x_kit_BadCode_BadText (c : He.SaysX fa fn ts [] ex w h K) : PySem.W.kitOne K (.ref (He.ga K "BadCode")) (.ref (He.ga K "BadText")) = some false := oB_ok (He.ba (He.ba (He.ba (He.ba (He.ba (He.ba (He.ba (He.ba (He.ba (He.ba c.more).2).2).2).2).2).2).2).2).2).2
def nmE_BadCode : List Str := ["self", "at"]
theorem scE_BadCode : FnScope nmE_BadCode ["self", "at"] (defScope (met 4 0)) := ⟨rfl, rfl, rfl, by decide +kernel, rfl, by decide +kernel, by decide +kernel⟩
theorem e_BadCode (G : Gb K w mg) (G0 : h.Ns mainGlobals mg) (X : K.In h) (c : He.SaysX fa fn ts [] ex w h K) {fd : FuncData} (F : FunD K "__init__" "BadCode.__init__" (defArgs (met 4 0)) (defBody (met 4 0)) (defScope (met 4 0)) [] [] (He.ma K (He.ga K "BadCode") "__init__") fd) : CalE P w K mg base 1 "BadCode" (He.ga K "BadCode") "at" okNat := by
  have M := (He.glo_ok X G0 (c.t.d.fact 86 (f := .glo "NoneshorterError") rfl))
  have B := baseB_ok (He.ba (He.ba (He.ba (He.ba c.more).2).2).2).1
  exact exc_mk (k := 0) (a1 := "self") (a2 := "at") (msg := "invalid step at index ") (by decide +kernel) (excB_ok (He.ba (He.ba c.more).2).1) F scE_BadCode (fun _ _ _ _ _ _ us hl => match us, hl with | [_, _], _ => rfl) (He.glo_ok X G0 (c.t.d.fact 83 (f := .glo "BadCode") rfl))
    (fun cdv A outer s H E hr => pss_cons (ps_expr (pe_baseInit rfl M B (pa_cons (pv 0) (pa_cons (pe_op op_add_str pe_str (pe_callTy call_str_int rfl G.str (by decide +kernel) (pa_cons (pv 1) pa_nil))) pa_nil)))) (pss_one (ps_ost (pv 0) (pv 1))))
def nmE_NoName : List Str := ["self", "name"]
theorem scE_NoName : FnScope nmE_NoName ["self", "name"] (defScope (met 5 0)) := ⟨rfl, rfl, rfl, by decide +kernel, rfl, by decide +kernel, by decide +kernel⟩
theorem e_NoName (G : Gb K w mg) (G0 : h.Ns mainGlobals mg) (X : K.In h) (c : He.SaysX fa fn ts [] ex w h K) {fd : FuncData} (F : FunD K "__init__" "NoName.__init__" (defArgs (met 5 0)) (defBody (met 5 0)) (defScope (met 5 0)) [] [] (He.ma K (He.ga K "NoName") "__init__") fd) : CalE P w K mg base 1 "NoName" (He.ga K "NoName") "name" okStr := by
  have M := (He.glo_ok X G0 (c.t.d.fact 86 (f := .glo "NoneshorterError") rfl))
  have B := baseB_ok (He.ba (He.ba (He.ba (He.ba c.more).2).2).2).1
  exact exc_mkS (k := 0) (a1 := "self") (a2 := "name") (msg := "unknown name ") (by decide +kernel) (excB_ok (He.ba (He.ba (He.ba c.more).2).2).1) F scE_NoName (fun _ _ _ _ _ _ us hl => match us, hl with | [_, _], _ => rfl) (He.glo_ok X G0 (c.t.d.fact 85 (f := .glo "NoName") rfl))
    (fun cdv A outer s H E hr => pss_cons (ps_expr (pe_baseInit rfl M B (pa_cons (pv 0) (pa_cons (pe_op op_add_str pe_str (pv 1)) pa_nil)))) (pss_one (ps_ost (pv 0) (pv 1))))
theorem law_fn (X : K.In h) (G0 : h.Ns mainGlobals mg) (c : He.SaysX fa fn ts [] ex w h K) {f : Addr} {fd : FuncData} (F : FunD K "law" "law" (defArgs (top 69)) (defBody (top 69)) (defScope (top 69)) [] [] f fd) : FnOk P w K mg base CX0 17 f fd ["script"] (spD K w Rd.sp_law) := by
  have G := gb X G0 c
  have hcl : CfOk K (fun C f => Cls K C ∧ NoAttr K C f) := fun C f h => h
  obtain ⟨fdE_BadCode, FE_BadCode⟩ := c.t.d.def_ 54 (d := dm "BadCode" "__init__" "BadCode.__init__" 4 0) rfl
  have E_BadCode : CalE P w K mg base 1 "BadCode" (He.ga K "BadCode") "at" okNat := e_BadCode G G0 X c FE_BadCode
  obtain ⟨fdE_NoName, FE_NoName⟩ := c.t.d.def_ 55 (d := dm "NoName" "__init__" "NoName.__init__" 5 0) rfl
  have E_NoName : CalE P w K mg base 1 "NoName" (He.ga K "NoName") "name" okStr := e_NoName G G0 X c FE_NoName
  have C_word_limit := d_word_limit (P := P) (base := base) (k := 0) G (t_word_limit X G0 c) (fun ds M Q E h => by repeat' first | (obtain ⟨rfl, _⟩ := h; rfl) | (obtain ⟨_, h⟩ := h)) Rd.r_word_limit
  have C_bad_words := d_bad_words (P := P) (base := base) (k := 1) G hcl (C_word_limit.mono (by omega)) (t_bad_words X G0 c) (fun ds M Q E h => by repeat' first | (obtain ⟨rfl, _⟩ := h; rfl) | (obtain ⟨_, h⟩ := h)) (Rk.r_bad_words (fun C f => Cls K C ∧ NoAttr K C f) (He.ga K "Book"))
  have C_is_name := d_is_name (P := P) (base := base) (k := 0) G (t_is_name X G0 c) (fun ds M Q E h => by repeat' first | (obtain ⟨rfl, _⟩ := h; rfl) | (obtain ⟨_, h⟩ := h)) Rd.r_is_name
  have C_is_shaped : ∀ n, Cal P w K mg base (1 + n) "is_shaped" ["formula", "width", "names", "depth"] (Rd.sp_is_shaped n) := fun n => by
    induction n with
    | zero => exact cal_no (t_is_shaped X G0 c) (fun _ _ _ _ _ _ us hl => match us, hl with | [_, _, _, _], _ => rfl) (fun ds M Q E h => by simp only [Rd.sp_is_shaped, Nat.not_lt_zero, false_and, and_false, exists_false] at h)
    | succ n ih => exact d_is_shaped (k := 1 + n) G (C_word_limit.mono (by omega)) ih (t_is_shaped X G0 c) (fun ds M Q E h => by repeat' first | (obtain ⟨rfl, _⟩ := h; rfl) | (obtain ⟨_, h⟩ := h)) (Rd.r_is_shaped n)
  have C_formula_size : ∀ n, Cal P w K mg base (0 + n) "formula_size" ["formula"] (Rd.sp_size n) := fun n => by
    induction n with
    | zero => exact cal_no (t_formula_size X G0 c) (fun _ _ _ _ _ _ us hl => match us, hl with | [_], _ => rfl) (fun ds M Q E h => by simp only [Rd.sp_size, Nat.not_lt_zero, false_and, and_false, exists_false] at h)
    | succ n ih => exact d_formula_size (k := 0 + n) G ih (t_formula_size X G0 c) (fun ds M Q E h => by repeat' first | (obtain ⟨rfl, _⟩ := h; rfl) | (obtain ⟨_, h⟩ := h)) (Rd.r_formula_size n)
  have C_is_formula := d_is_formula (P := P) (base := base) (k := 8) G ((C_is_shaped 7).mono (by omega)) ((C_formula_size 7).mono (by omega)) (t_is_formula X G0 c) (fun ds M Q E h => by repeat' first | (obtain ⟨rfl, _⟩ := h; rfl) | (obtain ⟨_, h⟩ := h)) Rd.r_is_formula
  have C_formula_names : ∀ n, Cal P w K mg base (0 + n) "formula_names" ["formula"] (Rd.sp_names n) := fun n => by
    induction n with
    | zero => exact cal_no (t_formula_names X G0 c) (fun _ _ _ _ _ _ us hl => match us, hl with | [_], _ => rfl) (fun ds M Q E h => by simp only [Rd.sp_names, Nat.not_lt_zero, false_and, and_false, exists_false] at h)
    | succ n ih => exact d_formula_names (k := 0 + n) G ih (t_formula_names X G0 c) (fun ds M Q E h => by repeat' first | (obtain ⟨rfl, _⟩ := h; rfl) | (obtain ⟨_, h⟩ := h)) (Rd.r_formula_names n)
  have C_bad_deed := d_bad_deed (P := P) (base := base) (k := 9) G hcl (C_is_name.mono (by omega)) (C_is_formula.mono (by omega)) ((C_formula_names 8).mono (by omega)) (t_bad_deed X G0 c) (fun ds M Q E h => by repeat' first | (obtain ⟨rfl, _⟩ := h; rfl) | (obtain ⟨_, h⟩ := h)) (Rk.r_bad_deed (fun C f => Cls K C ∧ NoAttr K C f) (He.ga K "Book"))
  have C_first_bad_line := d_first_bad_line (P := P) (base := base) (k := 10) G hcl (C_bad_words.mono (by omega)) (C_bad_deed.mono (by omega)) (t_first_bad_line X G0 c) (fun ds M Q E h => by repeat' first | (obtain ⟨rfl, _⟩ := h; rfl) | (obtain ⟨_, h⟩ := h)) (Rk.r_first_bad_line_v2 (fun C f => Cls K C ∧ NoAttr K C f) (He.ga K "Book"))
  obtain ⟨fd_Book__init__, F_Book__init__⟩ := c.t.d.def_ 49 (d := dm "Book" "__init__" "Book.__init__" 38 0) rfl
  have C_Book__init__ := d_Book__init__ (P := P) (base := base) (k := 11) G hcl (C_first_bad_line.mono (by omega)) F_Book__init__ (He.mkr_ok (c.t.d.fact 74 (f := .mkr "Book") rfl)) (He.glo_ok X G0 (c.t.d.fact 72 (f := .glo "Book") rfl)) (fun ds M Q E h => by repeat' first | (obtain ⟨rfl, _⟩ := h; rfl) | (obtain ⟨_, h⟩ := h)) (Rk.r_Book__init__ (fun C f => Cls K C ∧ NoAttr K C f) (He.ga K "Book"))
  have C_source_count := d_source_count (P := P) (base := base) (k := 8) G ((C_formula_names 8).mono (by omega)) (t_source_count X G0 c) (fun ds M Q E h => by repeat' first | (obtain ⟨rfl, _⟩ := h; rfl) | (obtain ⟨_, h⟩ := h)) Rk.r_source_count
  have C_takes_word := d_takes_word (P := P) (base := base) (k := 8) G ((C_formula_names 8).mono (by omega)) (t_takes_word X G0 c) (fun ds M Q E h => by repeat' first | (obtain ⟨rfl, _⟩ := h; rfl) | (obtain ⟨_, h⟩ := h)) Rk.r_takes_word
  obtain ⟨fd_Bookis_step, F_Bookis_step⟩ := c.t.d.def_ 51 (d := dm "Book" "is_step" "Book.is_step" 38 2) rfl
  have C_Bookis_step := d_Bookis_step (P := P) (base := base) (k := 9) G hcl (C_source_count.mono (by omega)) (C_takes_word.mono (by omega)) F_Bookis_step (He.cls_ok (c.t.d.fact 73 (f := .cls "Book") rfl)) (He.meth_ok (c.t.d.fact 80 (f := .meth "Book" "is_step") rfl)) (fun ds M Q E h => by repeat' first | (obtain ⟨rfl, _⟩ := h; rfl) | (obtain ⟨_, h⟩ := h)) (Rk.r_Bookis_step (fun C f => Cls K C ∧ NoAttr K C f) (He.ga K "Book"))
  have C__law_mix := d__law_mix (P := P) (base := base) (k := 0) G (t__law_mix X G0 c) (fun ds M Q E h => by repeat' first | (obtain ⟨rfl, _⟩ := h; rfl) | (obtain ⟨_, h⟩ := h)) Rd.r__law_mix
  have C__law_stream := d__law_stream (P := P) (base := base) (k := 1) G (C__law_mix.mono (by omega)) (t__law_stream X G0 c) (fun ds M Q E h => by repeat' first | (obtain ⟨rfl, _⟩ := h; rfl) | (obtain ⟨_, h⟩ := h)) Rd.r__law_stream
  have C__law_take := d__law_take (P := P) (base := base) (k := 0) G (t__law_take X G0 c) (fun ds M Q E h => by repeat' first | (obtain ⟨rfl, _⟩ := h; rfl) | (obtain ⟨_, h⟩ := h)) Rd.r__law_take
  have C__law_arity := d__law_arity (P := P) (base := base) (k := 0) G (t__law_arity X G0 c) (fun ds M Q E h => by repeat' first | (obtain ⟨rfl, _⟩ := h; rfl) | (obtain ⟨_, h⟩ := h)) Rd.r__law_arity
  have C__law_formula : ∀ n, Cal P w K mg base (1 + n) "_law_formula" ["numbers", "cursor", "names", "width", "depth"] (Rd.sp_formula n) := fun n => by
    induction n with
    | zero => exact cal_no (t__law_formula X G0 c) (fun _ _ _ _ _ _ us hl => match us, hl with | [_, _, _, _, _], _ => rfl) (fun ds M Q E h => by simp only [Rd.sp_formula, Nat.not_lt_zero, false_and, and_false, exists_false] at h)
    | succ n ih => exact d__law_formula (k := 1 + n) G (C__law_take.mono (by omega)) (C__law_arity.mono (by omega)) ih (t__law_formula X G0 c) (fun ds M Q E h => by repeat' first | (obtain ⟨rfl, _⟩ := h; rfl) | (obtain ⟨_, h⟩ := h)) (Rd.r__law_formula n)
  have C__law_names : ∀ n, Cal P w K mg base (0 + n) "_law_names" ["formula"] (Rk.sp_lnames2 n) := fun n => by
    induction n with
    | zero => exact cal_no (t__law_names X G0 c) (fun _ _ _ _ _ _ us hl => match us, hl with | [_], _ => rfl) (fun ds M Q E h => by simp only [Rk.sp_lnames2, Nat.not_lt_zero, false_and, and_false, exists_false] at h)
    | succ n ih => exact d__law_names (k := 0 + n) G ih (t__law_names X G0 c) (fun ds M Q E h => by repeat' first | (obtain ⟨rfl, _⟩ := h; rfl) | (obtain ⟨_, h⟩ := h)) (Rk.r__law_names_v2 n)
  have C__law_size : ∀ n, Cal P w K mg base (0 + n) "_law_size" ["formula"] (Rd.sp_lsize n) := fun n => by
    induction n with
    | zero => exact cal_no (t__law_size X G0 c) (fun _ _ _ _ _ _ us hl => match us, hl with | [_], _ => rfl) (fun ds M Q E h => by simp only [Rd.sp_lsize, Nat.not_lt_zero, false_and, and_false, exists_false] at h)
    | succ n ih => exact d__law_size (k := 0 + n) G ih (t__law_size X G0 c) (fun ds M Q E h => by repeat' first | (obtain ⟨rfl, _⟩ := h; rfl) | (obtain ⟨_, h⟩ := h)) (Rd.r__law_size n)
  have C__law_book := d__law_book (P := P) (base := base) (k := 8) G (C__law_take.mono (by omega)) ((C__law_formula 4).mono (by omega)) ((C__law_names 8).mono (by omega)) ((C__law_size 8).mono (by omega)) (t__law_book X G0 c) (fun ds M Q E h => by repeat' first | (obtain ⟨rfl, _⟩ := h; rfl) | (obtain ⟨_, h⟩ := h)) Rk.r__law_book
  have C__law_sources := d__law_sources (P := P) (base := base) (k := 8) G ((C__law_names 8).mono (by omega)) (t__law_sources X G0 c) (fun ds M Q E h => by repeat' first | (obtain ⟨rfl, _⟩ := h; rfl) | (obtain ⟨_, h⟩ := h)) Rk.r__law_sources
  have C__law_steps := d__law_steps (P := P) (base := base) (k := 9) G (C__law_sources.mono (by omega)) ((C__law_names 8).mono (by omega)) (t__law_steps X G0 c) (fun ds M Q E h => by repeat' first | (obtain ⟨rfl, _⟩ := h; rfl) | (obtain ⟨_, h⟩ := h)) Rk.r__law_steps
  have C_source_rows := d_source_rows (P := P) (base := base) (k := 0) G (t_source_rows X G0 c) (fun ds M Q E h => by repeat' first | (obtain ⟨rfl, _⟩ := h; rfl) | (obtain ⟨_, h⟩ := h)) Rk.r_source_rows
  obtain ⟨fd_Booksteps, F_Booksteps⟩ := c.t.d.def_ 52 (d := dm "Book" "steps" "Book.steps" 38 3) rfl
  have C_Booksteps := d_Booksteps (P := P) (base := base) (k := 9) G hcl (C_takes_word.mono (by omega)) (C_source_rows.mono (by omega)) (C_source_count.mono (by omega)) F_Booksteps (He.cls_ok (c.t.d.fact 73 (f := .cls "Book") rfl)) (He.meth_ok (c.t.d.fact 81 (f := .meth "Book" "steps") rfl)) (fun ds M Q E h => by repeat' first | (obtain ⟨rfl, _⟩ := h; rfl) | (obtain ⟨_, h⟩ := h)) (Rk.r_Booksteps (fun C f => Cls K C ∧ NoAttr K C f) (He.ga K "Book"))
  obtain ⟨fd_Bookdeed, F_Bookdeed⟩ := c.t.d.def_ 50 (d := dm "Book" "deed" "Book.deed" 38 1) rfl
  have C_Bookdeed := d_Bookdeed (P := P) (base := base) (k := 0) G hcl F_Bookdeed (He.cls_ok (c.t.d.fact 73 (f := .cls "Book") rfl)) (He.meth_ok (c.t.d.fact 79 (f := .meth "Book" "deed") rfl)) (fun ds M Q E h => by repeat' first | (obtain ⟨rfl, _⟩ := h; rfl) | (obtain ⟨_, h⟩ := h)) (Rk.r_Bookdeed (fun C f => Cls K C ∧ NoAttr K C f) (He.ga K "Book"))
  have C_step_count := d_step_count (P := P) (base := base) (k := 9) G hcl (C_source_count.mono (by omega)) (C_takes_word.mono (by omega)) (t_step_count X G0 c) (fun ds M Q E h => by repeat' first | (obtain ⟨rfl, _⟩ := h; rfl) | (obtain ⟨_, h⟩ := h)) (Rk.r_step_count (fun C f => Cls K C ∧ NoAttr K C f) (He.ga K "Book"))
  obtain ⟨fd_Bookcodes_within, F_Bookcodes_within⟩ := c.t.d.def_ 53 (d := dm "Book" "codes_within" "Book.codes_within" 38 4) rfl
  have C_Bookcodes_within := d_Bookcodes_within (P := P) (base := base) (k := 10) G hcl (C_step_count.mono (by omega)) F_Bookcodes_within (He.cls_ok (c.t.d.fact 73 (f := .cls "Book") rfl)) (He.meth_ok (c.t.d.fact 82 (f := .meth "Book" "codes_within") rfl)) (fun ds M Q E h => by repeat' first | (obtain ⟨rfl, _⟩ := h; rfl) | (obtain ⟨_, h⟩ := h)) (Rk.r_Bookcodes_within (fun C f => Cls K C ∧ NoAttr K C f) (He.ga K "Book"))
  obtain ⟨fd_BookdeedX, F_BookdeedX⟩ := c.t.d.def_ 50 (d := dm "Book" "deed" "Book.deed" 38 1) rfl
  have C_BookdeedX := d_BookdeedX (P := P) (base := base) (k := 1) G hcl (He.glo_ok X G0 (c.t.d.fact 85 (f := .glo "NoName") rfl)) (E_NoName.mono (by omega)) F_BookdeedX (He.cls_ok (c.t.d.fact 73 (f := .cls "Book") rfl)) (He.meth_ok (c.t.d.fact 79 (f := .meth "Book" "deed") rfl)) (fun ds M Q E h => by repeat' first | (obtain ⟨rfl, _⟩ := h; rfl) | (obtain ⟨_, h⟩ := h)) (Rk.r_Bookdeed_x (fun C f => Cls K C ∧ NoAttr K C f) (He.ga K "Book") (He.ga K "NoName"))
  have C__law_unknown := d__law_unknown (P := P) (base := base) (k := 3) G (He.glo_ok X G0 (c.t.d.fact 85 (f := .glo "NoName") rfl)) (He.glo_ok X G0 (c.t.d.fact 86 (f := .glo "NoneshorterError") rfl)) (xcB_ok (He.ba (He.ba (He.ba (He.ba (He.ba (He.ba c.more).2).2).2).2).2).1).xf (xcB_ok (He.ba (He.ba (He.ba (He.ba (He.ba (He.ba c.more).2).2).2).2).2).1).ec (xcB_ok (He.ba (He.ba (He.ba (He.ba (He.ba (He.ba c.more).2).2).2).2).2).1).no (C_BookdeedX.mono (by omega)) (t__law_unknown X G0 c) (fun ds M Q E h => by repeat' first | (obtain ⟨rfl, _⟩ := h; rfl) | (obtain ⟨_, h⟩ := h)) (Rk.r__law_unknown (fun C f => Cls K C ∧ NoAttr K C f) (He.ga K "Book") (He.ga K "NoName") (He.ga K "NoneshorterError") _ _ (x_sub_NoName_NoName c) (x_kit_NoName_NoneshorterError c))
  have C__law_deed := d__law_deed (P := P) (base := base) (k := 0) G (t__law_deed X G0 c) (fun ds M Q E h => by repeat' first | (obtain ⟨rfl, _⟩ := h; rfl) | (obtain ⟨_, h⟩ := h)) Rk.r__law_deed
  have C__law_many := d__law_many (P := P) (base := base) (k := 1) G (C__law_deed.mono (by omega)) (t__law_many X G0 c) (fun ds M Q E h => by repeat' first | (obtain ⟨rfl, _⟩ := h; rfl) | (obtain ⟨_, h⟩ := h)) Rk.r__law_many
  have C__law_is_whole := d__law_is_whole (P := P) (base := base) (k := 0) G (t__law_is_whole X G0 c) (fun ds M Q E h => by repeat' first | (obtain ⟨rfl, _⟩ := h; rfl) | (obtain ⟨_, h⟩ := h)) Rd.r__law_is_whole
  have C__law_counts := d__law_counts (P := P) (base := base) (k := 0) G (t__law_counts X G0 c) (fun ds M Q E h => by repeat' first | (obtain ⟨rfl, _⟩ := h; rfl) | (obtain ⟨_, h⟩ := h)) Rk.r__law_counts
  have C__law_book_asked := d__law_book_asked (P := P) (base := base) (k := 11) G (C_Booksteps.mono (by omega)) (C_Bookdeed.mono (by omega)) (C_Bookcodes_within.mono (by omega)) (C__law_unknown.mono (by omega)) (C__law_many.mono (by omega)) (C__law_take.mono (by omega)) (C__law_is_whole.mono (by omega)) (C__law_counts.mono (by omega)) (t__law_book_asked X G0 c) (fun ds M Q E h => by repeat' first | (obtain ⟨rfl, _⟩ := h; rfl) | (obtain ⟨_, h⟩ := h)) (Rk.r__law_book_asked (fun C f => Cls K C ∧ NoAttr K C f) (He.ga K "Book"))
  have C__law_spoilt := d__law_spoilt (P := P) (base := base) (k := 1) G (C__law_take.mono (by omega)) (t__law_spoilt X G0 c) (fun ds M Q E h => by repeat' first | (obtain ⟨rfl, _⟩ := h; rfl) | (obtain ⟨_, h⟩ := h)) Rk.r__law_spoilt_v2
  have C__law_is_state := d__law_is_state (P := P) (base := base) (k := 0) G (t__law_is_state X G0 c) (fun ds M Q E h => by repeat' first | (obtain ⟨rfl, _⟩ := h; rfl) | (obtain ⟨_, h⟩ := h)) Rk.r__law_is_state
  have C_begin_state := d_begin_state (P := P) (base := base) (k := 0) G hcl (t_begin_state X G0 c) (fun ds M Q E h => by repeat' first | (obtain ⟨rfl, _⟩ := h; rfl) | (obtain ⟨_, h⟩ := h)) (Rk.r_begin_state (fun C f => Cls K C ∧ NoAttr K C f) (He.ga K "Book"))
  have C_check_codeX := d_check_codeX (P := P) (base := base) (k := 9) G (He.glo_ok X G0 (c.t.d.fact 83 (f := .glo "BadCode") rfl)) (E_BadCode.mono (by omega)) (C_Bookis_step.mono (by omega)) (t_check_code X G0 c) (fun ds M Q E h => by repeat' first | (obtain ⟨rfl, _⟩ := h; rfl) | (obtain ⟨_, h⟩ := h)) (Rk.r_check_code_x (fun C f => Cls K C ∧ NoAttr K C f) (He.ga K "Book") (He.ga K "BadCode"))
  have C_code_priceX := d_code_priceX (P := P) (base := base) (k := 11) G (C_Bookdeed.mono (by omega)) (C_check_codeX.mono (by omega)) (t_code_price X G0 c) (fun ds M Q E h => by repeat' first | (obtain ⟨rfl, _⟩ := h; rfl) | (obtain ⟨_, h⟩ := h)) (Rk.r_code_price_x (fun C f => Cls K C ∧ NoAttr K C f) (He.ga K "Book") (He.ga K "BadCode"))
  have C_operate_one := d_operate_one (P := P) (base := base) (k := 1) G (C_word_limit.mono (by omega)) (t_operate_one X G0 c) (fun ds M Q E h => by repeat' first | (obtain ⟨rfl, _⟩ := h; rfl) | (obtain ⟨_, h⟩ := h)) Rd.r_operate_one
  have C_operate_bits := d_operate_bits (P := P) (base := base) (k := 0) G (t_operate_bits X G0 c) (fun ds M Q E h => by repeat' first | (obtain ⟨rfl, _⟩ := h; rfl) | (obtain ⟨_, h⟩ := h)) Rd.r_operate_bits
  have C_signed_value := d_signed_value (P := P) (base := base) (k := 1) G (C_word_limit.mono (by omega)) (t_signed_value X G0 c) (fun ds M Q E h => by repeat' first | (obtain ⟨rfl, _⟩ := h; rfl) | (obtain ⟨_, h⟩ := h)) Rd.r_signed_value
  have C_operate_order := d_operate_order (P := P) (base := base) (k := 2) G (C_signed_value.mono (by omega)) (t_operate_order X G0 c) (fun ds M Q E h => by repeat' first | (obtain ⟨rfl, _⟩ := h; rfl) | (obtain ⟨_, h⟩ := h)) Rd.r_operate_order
  have C_operate_sum := d_operate_sum (P := P) (base := base) (k := 1) G (C_word_limit.mono (by omega)) (t_operate_sum X G0 c) (fun ds M Q E h => by repeat' first | (obtain ⟨rfl, _⟩ := h; rfl) | (obtain ⟨_, h⟩ := h)) Rd.r_operate_sum
  have C_operate := d_operate (P := P) (base := base) (k := 3) G (C_operate_one.mono (by omega)) (C_operate_bits.mono (by omega)) (C_operate_order.mono (by omega)) (C_operate_sum.mono (by omega)) (t_operate X G0 c) (fun ds M Q E h => by repeat' first | (obtain ⟨rfl, _⟩ := h; rfl) | (obtain ⟨_, h⟩ := h)) Rd.r_operate
  have C_formula_value : ∀ n, Cal P w K mg base (4 + n) "formula_value" ["formula", "width", "env"] (Rd.sp_value n) := fun n => by
    induction n with
    | zero => exact cal_no (t_formula_value X G0 c) (fun _ _ _ _ _ _ us hl => match us, hl with | [_, _, _], _ => rfl) (fun ds M Q E h => by simp only [Rd.sp_value, Nat.not_lt_zero, false_and, and_false, exists_false] at h)
    | succ n ih => exact d_formula_value (k := 4 + n) G ih (C_operate.mono (by omega)) (t_formula_value X G0 c) (fun ds M Q E h => by repeat' first | (obtain ⟨rfl, _⟩ := h; rfl) | (obtain ⟨_, h⟩ := h)) (Rd.r_formula_value n)
  have C_step_word := d_step_word (P := P) (base := base) (k := 12) G hcl (C_Bookdeed.mono (by omega)) ((C_formula_value 8).mono (by omega)) (t_step_word X G0 c) (fun ds M Q E h => by repeat' first | (obtain ⟨rfl, _⟩ := h; rfl) | (obtain ⟨_, h⟩ := h)) (Rk.r_step_word (fun C f => Cls K C ∧ NoAttr K C f) (He.ga K "Book"))
  have C_step_state := d_step_state (P := P) (base := base) (k := 13) G (C_step_word.mono (by omega)) (t_step_state X G0 c) (fun ds M Q E h => by repeat' first | (obtain ⟨rfl, _⟩ := h; rfl) | (obtain ⟨_, h⟩ := h)) (Rk.r_step_state (fun C f => Cls K C ∧ NoAttr K C f) (He.ga K "Book"))
  have C_run_codeX := d_run_codeX (P := P) (base := base) (k := 14) G (C_check_codeX.mono (by omega)) (C_step_state.mono (by omega)) (t_run_code X G0 c) (fun ds M Q E h => by repeat' first | (obtain ⟨rfl, _⟩ := h; rfl) | (obtain ⟨_, h⟩ := h)) (Rk.r_run_code_x (fun C f => Cls K C ∧ NoAttr K C f) (He.ga K "Book") (He.ga K "BadCode"))
  have C__law_bad := d__law_bad (P := P) (base := base) (k := 15) G (He.glo_ok X G0 (c.t.d.fact 83 (f := .glo "BadCode") rfl)) (He.glo_ok X G0 (c.t.d.fact 86 (f := .glo "NoneshorterError") rfl)) (He.glo_ok X G0 (c.t.d.fact 84 (f := .glo "BadText") rfl)) (xcB_ok (He.ba (He.ba (He.ba (He.ba (He.ba c.more).2).2).2).2).1).xf (xcB_ok (He.ba (He.ba (He.ba (He.ba (He.ba c.more).2).2).2).2).1).ec (xcB_ok (He.ba (He.ba (He.ba (He.ba (He.ba c.more).2).2).2).2).1).no (C_check_codeX.mono (by omega)) (C_code_priceX.mono (by omega)) (C_run_codeX.mono (by omega)) (t__law_bad X G0 c) (fun ds M Q E h => by repeat' first | (obtain ⟨rfl, _⟩ := h; rfl) | (obtain ⟨_, h⟩ := h)) (Rk.r__law_bad (fun C f => Cls K C ∧ NoAttr K C f) (He.ga K "Book") (He.ga K "BadCode") (He.ga K "NoneshorterError") (He.ga K "BadText") _ _ _ (x_sub_BadCode_BadCode c) (x_kit_BadCode_NoneshorterError c) (x_kit_BadCode_BadText c))
  have C__law_two := d__law_two (P := P) (base := base) (k := 0) G (t__law_two X G0 c) (fun ds M Q E h => by repeat' first | (obtain ⟨rfl, _⟩ := h; rfl) | (obtain ⟨_, h⟩ := h)) Rd.r__law_two
  have C__law_value : ∀ n, Cal P w K mg base (1 + n) "_law_value" ["formula", "width", "env"] (Rd.sp_lvalue n) := fun n => by
    induction n with
    | zero => exact cal_no (t__law_value X G0 c) (fun _ _ _ _ _ _ us hl => match us, hl with | [_, _, _], _ => rfl) (fun ds M Q E h => by simp only [Rd.sp_lvalue, Nat.not_lt_zero, false_and, and_false, exists_false] at h)
    | succ n ih => exact d__law_value (k := 1 + n) G ih (C__law_two.mono (by omega)) (t__law_value X G0 c) (fun ds M Q E h => by repeat' first | (obtain ⟨rfl, _⟩ := h; rfl) | (obtain ⟨_, h⟩ := h)) (Rd.r__law_value n)
  have C__law_after := d__law_after (P := P) (base := base) (k := 9) G ((C__law_value 8).mono (by omega)) (C__law_deed.mono (by omega)) (t__law_after X G0 c) (fun ds M Q E h => by repeat' first | (obtain ⟨rfl, _⟩ := h; rfl) | (obtain ⟨_, h⟩ := h)) Rk.r__law_after
  have C_check_code := d_check_code (P := P) (base := base) (k := 10) G (C_Bookis_step.mono (by omega)) (t_check_code X G0 c) (fun ds M Q E h => by repeat' first | (obtain ⟨rfl, _⟩ := h; rfl) | (obtain ⟨_, h⟩ := h)) (Rk.r_check_code (fun C f => Cls K C ∧ NoAttr K C f) (He.ga K "Book"))
  have C_code_price := d_code_price (P := P) (base := base) (k := 11) G (C_Bookdeed.mono (by omega)) (C_check_code.mono (by omega)) (t_code_price X G0 c) (fun ds M Q E h => by repeat' first | (obtain ⟨rfl, _⟩ := h; rfl) | (obtain ⟨_, h⟩ := h)) (Rk.r_code_price (fun C f => Cls K C ∧ NoAttr K C f) (He.ga K "Book"))
  have C_run_code := d_run_code (P := P) (base := base) (k := 14) G (C_check_code.mono (by omega)) (C_step_state.mono (by omega)) (t_run_code X G0 c) (fun ds M Q E h => by repeat' first | (obtain ⟨rfl, _⟩ := h; rfl) | (obtain ⟨_, h⟩ := h)) (Rk.r_run_code (fun C f => Cls K C ∧ NoAttr K C f) (He.ga K "Book"))
  exact d_law (k := 15) G (C_Book__init__.mono (by omega)) (C_Bookis_step.mono (by omega)) (C__law_stream.mono (by omega)) (C__law_book.mono (by omega)) (C__law_steps.mono (by omega)) (C__law_book_asked.mono (by omega)) (C__law_take.mono (by omega)) (C__law_spoilt.mono (by omega)) (C__law_is_state.mono (by omega)) (C_begin_state.mono (by omega)) (C__law_bad.mono (by omega)) (C__law_deed.mono (by omega)) (C__law_after.mono (by omega)) (C_step_state.mono (by omega)) (C_check_code.mono (by omega)) (C__law_is_whole.mono (by omega)) (C_code_price.mono (by omega)) (C_run_code.mono (by omega)) F (fun ds M Q E h => by repeat' first | (obtain ⟨rfl, _⟩ := h; rfl) | (obtain ⟨_, h⟩ := h)) (Rk.r_law_v4 (fun C f => Cls K C ∧ NoAttr K C f) (He.ga K "Book") (cl_Book c))
theorem facts {f : Addr} (X : K.In h) (G : h.Ns mainGlobals mg) (hfa : mg ("law" : Str) = some (.ref f)) (c : He.SaysX fa fn ts [] ex w h K) :
    ∃ fd : FuncData, (∀ (s : Shared) (v : Value), BindsTo s fd ⟨[v], []⟩ [("script", v)]) ∧ ∀ base : Heap, FnOk P w K mg base CX0 17 f fd ["script"] (spD K w Rd.sp_law) := by
  obtain ⟨fd, F⟩ := c.t.d.def_ 48 (d := dd "law" 69) rfl
  have e := hfa.symm.trans (He.glo_ok X G (c.t.d.fact 48 (f := .glo "law") rfl))
  cases e
  have b := FunD.bindsA (ps := ["script"]) F fun _ _ _ _ _ _ us hl => match us, hl with | [_], _ => rfl
  exact ⟨fd, fun s v => b s [v] rfl, fun base => law_fn X G c F⟩
end
end K88e
open PySem PySem.W PySem.Calls PyProof.Rows
theorem PySem.Challenge.cw_noneshorter_k88_book_runs_holds : PySem.Challenge.rw_noneshorter_k88_book_runs.Holds := by
  w_on; o_law
  refine HandSHeadRun.head_any (r := OpenLaw.row PySem.Challenge.rw_noneshorter_k88_book_runs) (q := view (OpenLaw.row PySem.Challenge.rw_noneshorter_k88_book_runs).prog [69]) (H := K88e.hk) (ob := K88e.ob) (M := 12000) (loose := K88e.names) (d := HandSHeadRun.topDef (OpenLaw.row PySem.Challenge.rw_noneshorter_k88_book_runs).prog 69) (kwd := []) K88e.ob_eq
    (by kernel_rfl) (fun s => by kernel_rfl) K88e.run (by kernel_rfl) (by kernel_rfl) (by kernel_rfl) (by rfl) (by first | assumption | decide +kernel) (by decide +kernel) ⟨rfl, rfl, rfl, rfl, rfl, by decide +kernel⟩ ?hw ?hc
  case hw => w_witness2
  case hc =>
    refine L2.walk_ofE (l := PySem.Challenge.rw_noneshorter_k88_book_runs) (n := 63) (k := 17) (x := "script") (CX := L2.CX0) rfl (by decide) (by kernel_rfl) ⟨rfl, by decide, by decide⟩ ?F (fun _ _ _ _ z => z)
    intro w mg fa h Y G hmg0
    obtain ⟨K, KX, c⟩ := Y
    have hmg : mg ("law" : PySem.Str) = some (.ref fa) := by
      have e : (HandSHeadRun.topDef (OpenLaw.row PySem.Challenge.rw_noneshorter_k88_book_runs).prog 69).name = ("law" : PySem.Str) := by kernel_rfl
      rw [← e]
      exact hmg0
    obtain ⟨fd, hb, hF⟩ := K88e.facts (P := (PySem.Challenge.rw_noneshorter_k88_book_runs).prog) (w := w) KX G hmg c
    exact ⟨K, fd, DH.spD K w Rd.sp_law, KX, hb, fun H a ns hl ho hS => DH.start_sp ho hS fun Q E hQ => ⟨ns, rfl, hl, hQ⟩, fun base _ _ => hF base⟩

