import PyProof.Rows.All
import Wide.All
import OpenK.AllK
import Wide.FinOn
import HandS.ForMost
import HandS.ForExc
import HandS.IsInst
import HandS.HeadHook1
import HandS.NoneIn
import HandS.StrMore
import HandS.RaiseMore
import KE.KExcSuper
import KE.KExcRaise
import HandS.ExcInit
import KE.KSuper
import HandS.RaiseFrom
import HandS.SuiteRaise
import HandS.ExcCtx
import HandS.ExcField
import HandS.ExcIs
import HandS.ClsMeth
import KE.KCallOwn
import HandS.OwnEq
import HandS.TupAny
import HandS.Style
import PyProof.CollectIter
import KE.KUnpack
import HandS.HeadWalk
import HandS.More
import KE.GoesEnum
import KE.GoesMore
import HandS.Zip
import HandS.DictComp
import HandS.FStr
import HandS.TryOnly
import HandS.Defaults
import KE.KStateDown
import HandS.Ends
import HandS.Words
import HandS.WordsExc
import HandS.Head0
import HandS.Head1
import HandS.Head2
import HandS.HeadEnd
import HandS.HeadHook2
import HandS.HeadNt
import PySem.Challenge.RW_ledmarks_k03_rows_refused
import HandS.Text
set_option Elab.async false
set_option linter.all false
set_option maxRecDepth 100000
/-! DL1: data trees, how they lie in the abstract heap, environments. -/
namespace DL
open PySem L2

/-- data -/
inductive D where
  | non | bl (b : Bool) | int (i : Int) | str (x : Str)
  | lst (xs : List D) | tup (xs : List D)
  | dic (ks : List (Option Key)) (xs : List D)
  | obj (c : Str) (ns : List Str) (xs : List D)
  | box (k : Nat)
  | scr (ns : List Int)
  | ty (n : String) | cl (c : Str)
  | src
instance : Inhabited D := ⟨.non⟩

/-- the written part, and what is true of the opaque boxes, by kind -/
structure KB where
  K : PySem.W.Frag
  bx : Nat → Addr → Heap → Prop
  nd : Addr → List (Option Key) → List V → Heap → Prop
/-- a dict whose keys are None, ints, texts -/
def ndP (P : Program) (w : World) : Addr → List (Option Key) → List V → Heap → Prop := fun p ks vs h =>
  ks.length ≤ sizeLine ∧ (p == sysModules) = false ∧ ks.length = vs.length ∧ ∃ us, Vals vs us ∧ h.DictOf (noneKind P w) p (ks.zip us)

/-- a tuple that is read: tracked, or of the written part -/
def TqT (K : PySem.W.Frag) (H : Hp) (a : Addr) (xs : List V) : Prop :=
  H a = some (.tup xs) ∨ ∃ (o : Obj) (its : Array Value) (n : Nat), K.lookup a = some o ∧ o.cls = .type "tuple" ∧ o.data = .seq its n ∧ its.size ≤ sizeLine ∧ Vals xs its.toList
theorem TqT.sq {K : PySem.W.Frag} {H : Hp} {a : Addr} {xs : List V} (h : TqT K H a xs) : SqT K H a xs := by
  rcases h with h | h
  · exact .inl (.inl h)
  · exact .inr h
theorem TqT.of {K : PySem.W.Frag} {H : Hp} {a : Addr} {xs : List V} (h : H a = some (.tup xs)) : TqT K H a xs := .inl h

/-- the script: never written -/
def ScrT (K : PySem.W.Frag) (F : Hp) (a : Addr) (xs : List V) : Prop := (∃ o, F a = some (.frz o (.lst xs))) ∨ SqL K (fun _ => none) a xs
mutual
def Rep (κ : KB) (F : Hp) : D → V → Prop
  | .non, v => v = .non
  | .bl b, v => v = .bl b
  | .int i, v => v = .int i
  | .str x, v => v = .str x
  | .lst ds, v => ∃ p vs, v = .ref p ∧ F p = some (.lst vs) ∧ RepL κ F ds vs
  | .tup ds, v => ∃ p vs, v = .ref p ∧ TqT κ.K F p vs ∧ RepL κ F ds vs
  | .dic ks ds, v => ∃ p vs, v = .ref p ∧ F p = some (.ext (κ.nd p ks vs)) ∧ ks.length = ds.length ∧ RepL κ F ds vs
  | .obj c ns ds, v => ∃ p dx vs, v = .ref p ∧ F p = some (.ins (He.ga κ.K c) dx (ns.zip vs)) ∧ ns.length = ds.length ∧ RepL κ F ds vs
  | .box k, v => ∃ p, v = .ref p ∧ F p = some (.ext (κ.bx k p))
  | .scr ns, v => ∃ p, v = .ref p ∧ ScrT κ.K F p (ns.map V.int)
  | .ty n, v => v = .ty n
  | .cl c, v => v = .ref (He.ga κ.K c)
  | .src, v => ∃ p q : Addr, v = .ref p ∧ F p = some (.ext (κ.bx (2 * q + 2) p)) ∧ F q = some (.ext (κ.bx (2 * q + 1) q))
def RepL (κ : KB) (F : Hp) : List D → List V → Prop
  | [], vs => vs = []
  | d :: ds, vs => ∃ v r, vs = v :: r ∧ Rep κ F d v ∧ RepL κ F ds r
end

theorem same_rd {H H' : Hp} {a : Addr} {u : HO} (e : Same H H') (h : Rd H a u) : Rd H' a u := by
  rcases h with h | ⟨o, h⟩
  · exact .inl (e _ _ h)
  · exact .inr ⟨o, e _ _ h⟩
theorem ScrT.same {K : PySem.W.Frag} {H H' : Hp} {a : Addr} {xs : List V} (e : Same H H') (h : ScrT K H a xs) : ScrT K H' a xs := by
  rcases h with ⟨o, h⟩ | h
  · exact .inl ⟨o, e _ _ h⟩
  · exact .inr h
theorem ScrT.sq {K : PySem.W.Frag} {H : Hp} {a : Addr} {xs : List V} (h : ScrT K H a xs) : SqL K H a xs := by
  rcases h with ⟨o, h⟩ | h | h
  · exact .inl (.inr ⟨o, h⟩)
  · rcases h with h | ⟨o, h⟩ <;> cases h
  · exact .inr h
theorem same_l {K : PySem.W.Frag} {H H' : Hp} {a : Addr} {xs : List V} (e : Same H H') (h : SqL K H a xs) : SqL K H' a xs := e.seq h
theorem same_t {K : PySem.W.Frag} {H H' : Hp} {a : Addr} {xs : List V} (e : Same H H') (h : TqT K H a xs) : TqT K H' a xs := by
  rcases h with h | h
  · exact .inl (e _ _ h)
  · exact .inr h

section
variable {κ : KB} {F F' H H' : Hp}
mutual
theorem Rep.mono (e : Same F F') : ∀ (d : D) (v : V), Rep κ F d v → Rep κ F' d v
  | .non, _, h => by simpa only [Rep] using h
  | .bl _, _, h => by simpa only [Rep] using h
  | .int _, _, h => by simpa only [Rep] using h
  | .str _, _, h => by simpa only [Rep] using h
  | .ty _, _, h => by simpa only [Rep] using h
  | .cl _, _, h => by simpa only [Rep] using h
  | .lst ds, v, h => by
    unfold Rep at h ⊢
    obtain ⟨p, vs, h1, h2, h3⟩ := h
    exact ⟨p, vs, h1, e _ _ h2, RepL.mono e ds vs h3⟩
  | .tup ds, v, h => by
    unfold Rep at h ⊢
    obtain ⟨p, vs, h1, h2, h3⟩ := h
    exact ⟨p, vs, h1, same_t e h2, RepL.mono e ds vs h3⟩
  | .dic ks ds, v, h => by
    unfold Rep at h ⊢
    obtain ⟨p, vs, h1, h2, h3, h4⟩ := h
    exact ⟨p, vs, h1, e _ _ h2, h3, RepL.mono e ds vs h4⟩
  | .obj c ns ds, v, h => by
    unfold Rep at h ⊢
    obtain ⟨p, dx, vs, h1, h2, h3, h4⟩ := h
    exact ⟨p, dx, vs, h1, e _ _ h2, h3, RepL.mono e ds vs h4⟩
  | .box k, v, h => by
    unfold Rep at h ⊢
    obtain ⟨p, h1, h2⟩ := h
    exact ⟨p, h1, e _ _ h2⟩
  | .scr ns, v, h => by
    unfold Rep at h ⊢
    obtain ⟨p, h1, h2⟩ := h
    exact ⟨p, h1, h2.same e⟩
  | .src, v, h => by
    unfold Rep at h ⊢
    obtain ⟨p, q, h1, h2, h3⟩ := h
    exact ⟨p, q, h1, e _ _ h2, e _ _ h3⟩
theorem RepL.mono (e : Same F F') : ∀ (ds : List D) (vs : List V), RepL κ F ds vs → RepL κ F' ds vs
  | [], _, h => by simpa only [RepL] using h
  | d :: ds, vs, h => by
    unfold RepL at h ⊢
    obtain ⟨v, r, h1, h2, h3⟩ := h
    exact ⟨v, r, h1, Rep.mono e d v h2, RepL.mono e ds r h3⟩
end
theorem RepL.nil : RepL κ F [] [] := by unfold RepL; rfl
theorem RepL.cons {d : D} {v : V} {ds : List D} {vs : List V} (h : Rep κ F d v) (r : RepL κ F ds vs) : RepL κ F (d :: ds) (v :: vs) := by
  unfold RepL; exact ⟨v, vs, rfl, h, r⟩
theorem RepL.nil_inv {vs : List V} (h : RepL κ F [] vs) : vs = [] := by unfold RepL at h; exact h
theorem RepL.cons_inv {d : D} {ds : List D} {vs : List V} (h : RepL κ F (d :: ds) vs) : ∃ v r, vs = v :: r ∧ Rep κ F d v ∧ RepL κ F ds r := by unfold RepL at h; exact h
theorem RepL.len : ∀ {ds : List D} {vs : List V}, RepL κ F ds vs → ds.length = vs.length
  | [], _, h => by rw [h.nil_inv]; rfl
  | d :: ds, _, h => by
    obtain ⟨v, r, rfl, _, h3⟩ := h.cons_inv
    simp only [List.length_cons, h3.len]
theorem RepL.get : ∀ {ds : List D} {vs : List V} {i : Nat} {d : D}, RepL κ F ds vs → ds[i]? = some d → ∃ v, vs[i]? = some v ∧ Rep κ F d v
  | [], _, _, _, _, e => by simp at e
  | d :: ds, _, 0, _, h, e => by
    obtain ⟨v, r, rfl, h2, h3⟩ := h.cons_inv
    simp at e; subst e
    exact ⟨v, rfl, h2⟩
  | d :: ds, _, i + 1, _, h, e => by
    obtain ⟨v, r, rfl, h2, h3⟩ := h.cons_inv
    exact h3.get (by simpa using e)
theorem RepL.getV : ∀ {ds : List D} {vs : List V} {i : Nat} {v : V}, RepL κ F ds vs → vs[i]? = some v → ∃ d, ds[i]? = some d ∧ Rep κ F d v
  | [], _, _, _, h, e => by rw [h.nil_inv] at e; simp at e
  | d :: ds, _, 0, _, h, e => by
    obtain ⟨v, r, rfl, h2, h3⟩ := h.cons_inv
    simp at e; subst e
    exact ⟨d, rfl, h2⟩
  | d :: ds, _, i + 1, _, h, e => by
    obtain ⟨v, r, rfl, h2, h3⟩ := h.cons_inv
    exact h3.getV (by simpa using e)
theorem RepL.app : ∀ {ds es : List D} {vs ws : List V}, RepL κ F ds vs → RepL κ F es ws → RepL κ F (ds ++ es) (vs ++ ws)
  | [], _, _, _, h, r => by rw [h.nil_inv]; exact r
  | d :: ds, _, _, _, h, r => by
    obtain ⟨v, r', rfl, h2, h3⟩ := h.cons_inv
    exact .cons h2 (h3.app r)
theorem RepL.set {d : D} {v : V} (hd : Rep κ F d v) : ∀ {ds : List D} {vs : List V} (i : Nat), RepL κ F ds vs → RepL κ F (ds.set i d) (vs.set i v)
  | [], _, i, h => by rw [h.nil_inv]; exact .nil
  | _ :: ds, _, 0, h => by
    obtain ⟨v', r', rfl, h2, h3⟩ := h.cons_inv
    exact .cons hd h3
  | _ :: ds, _, i + 1, h => by
    obtain ⟨v', r', rfl, h2, h3⟩ := h.cons_inv
    exact .cons h2 (h3.set hd i)
theorem RepL.take : ∀ {ds : List D} {vs : List V} (n : Nat), RepL κ F ds vs → RepL κ F (ds.take n) (vs.take n)
  | [], _, n, h => by rw [h.nil_inv]; simpa using RepL.nil
  | _ :: _, _, 0, h => by simpa using RepL.nil
  | _ :: ds, _, n + 1, h => by
    obtain ⟨v', r', rfl, h2, h3⟩ := h.cons_inv
    exact .cons h2 (h3.take n)
theorem RepL.drop : ∀ {ds : List D} {vs : List V} (n : Nat), RepL κ F ds vs → RepL κ F (ds.drop n) (vs.drop n)
  | [], _, n, h => by rw [h.nil_inv]; simpa using RepL.nil
  | _ :: _, _, 0, h => by simpa using h
  | _ :: ds, _, n + 1, h => by
    obtain ⟨v', r', rfl, h2, h3⟩ := h.cons_inv
    simpa using h3.drop n
theorem RepL.erase : ∀ {ds : List D} {vs : List V} (i : Nat), RepL κ F ds vs → RepL κ F (ds.eraseIdx i) (vs.eraseIdx i)
  | [], _, n, h => by rw [h.nil_inv]; simpa using RepL.nil
  | _ :: _, _, 0, h => by
    obtain ⟨v', r', rfl, h2, h3⟩ := h.cons_inv
    simpa using h3
  | _ :: ds, _, n + 1, h => by
    obtain ⟨v', r', rfl, h2, h3⟩ := h.cons_inv
    simpa using RepL.cons h2 (h3.erase n)
theorem RepL.insert {d : D} {v : V} (hd : Rep κ F d v) : ∀ {ds : List D} {vs : List V} (i : Nat), RepL κ F ds vs → RepL κ F (ds.insertIdx i d) (vs.insertIdx i v)
  | _, _, 0, h => by simpa using RepL.cons hd h
  | [], _, n + 1, h => by rw [h.nil_inv]; simpa using RepL.nil
  | _ :: ds, _, n + 1, h => by
    obtain ⟨v', r', rfl, h2, h3⟩ := h.cons_inv
    simpa using RepL.cons h2 (h3.insert hd n)
theorem RepL.rev {ds : List D} {vs : List V} (h : RepL κ F ds vs) : RepL κ F ds.reverse vs.reverse := by
  induction ds generalizing vs with
  | nil => rw [h.nil_inv]; simpa using RepL.nil
  | cons d ds ih =>
    obtain ⟨v', r', rfl, h2, h3⟩ := h.cons_inv
    simpa using (ih h3).app (.cons h2 .nil)
end

/-! ### environments -/
inductive S where
  | fr (d : D) | ow (d : D)
abbrev Env' := List (Option S)

section
variable (κ : KB)
/-- an object that is changed by its owner alone -/
def OwnAt (F H : Hp) : D → Addr → Prop
  | .lst ds, p => ∃ vs, H p = some (.lst vs) ∧ RepL κ F ds vs
  | .dic ks ds, p => ∃ vs, H p = some (.ext (κ.nd p ks vs)) ∧ ks.length = ds.length ∧ RepL κ F ds vs
  | .obj c ns ds, p => ∃ dx vs, H p = some (.ins (He.ga κ.K c) dx (ns.zip vs)) ∧ ns.length = ds.length ∧ RepL κ F ds vs
  | _, _ => False
def Root (σ : L2.St) (ρ : Env') (a : Addr) : Prop := ∃ (i : Nat) (d : D), ρ[i]? = some (some (.ow d)) ∧ σ[i]? = some (some (.ref a))
/-- B: the heap at the entry; F: what never changes again; H: the heap -/
structure EnvOk (B F H : Hp) (σ : L2.St) (ρ : Env') : Prop where
  bas : Same B H
  sub : Same F H
  len : ρ.length = σ.length
  fr : ∀ (i : Nat) (d : D), ρ[i]? = some (some (.fr d)) → ∃ v, σ[i]? = some (some v) ∧ Rep κ F d v
  ow : ∀ (i : Nat) (d : D), ρ[i]? = some (some (.ow d)) → ∃ p, σ[i]? = some (some (.ref p)) ∧ F p = none ∧ B p = none ∧ OwnAt κ F H d p
  dj : ∀ (i j : Nat) (p : Addr) (d e : D), ρ[i]? = some (some (.ow d)) → ρ[j]? = some (some (.ow e)) → σ[i]? = some (some (.ref p)) → σ[j]? = some (some (.ref p)) → i = j
structure Post (B F H : Hp) (σ : L2.St) (ρ : Env') (F' H' : Hp) (ρ' : Env') : Prop where
  exF : Same F F'
  env : EnvOk κ B F' H' σ ρ'
  frm : ∀ a o, H a = some o → ¬ Root σ ρ a → H' a = some o
  new : ∀ a, F a = none → F' a ≠ none → H a = none ∨ Root σ ρ a
  rts : ∀ a, Root σ ρ' a → Root σ ρ a
  sty : ∀ a o, H a = some o → ∃ o', H' a = some o'
end

section
variable {κ : KB} {B F F1 F2 H H1 H2 : Hp} {σ : L2.St} {ρ ρ1 ρ2 : Env'}
theorem Post.refl (e : EnvOk κ B F H σ ρ) : Post κ B F H σ ρ F H ρ :=
  ⟨Same.refl F, e, fun _ _ h _ => h, fun a h h' => absurd h h', fun _ h => h, fun _ o h => ⟨o, h⟩⟩
theorem Post.trans (a : Post κ B F H σ ρ F1 H1 ρ1) (b : Post κ B F1 H1 σ ρ1 F2 H2 ρ2) : Post κ B F H σ ρ F2 H2 ρ2 where
  exF := a.exF.trans b.exF
  env := b.env
  frm := fun x o h r => b.frm x o (a.frm x o h r) fun z => r (a.rts x z)
  new := fun x h h' => by
    cases q : F1 x with
    | some o => exact a.new x h (by rw [q]; simp)
    | none =>
      rcases b.new x q h' with z | z
      · cases e : H x with
        | none => exact .inl rfl
        | some o =>
          by_cases r : Root σ ρ x
          · exact .inr r
          · rw [a.frm x o e r] at z; cases z
      · exact .inr (a.rts x z)
  rts := fun x h => a.rts x (b.rts x h)
  sty := fun x o h => let ⟨o1, h1⟩ := a.sty x o h; b.sty x o1 h1
theorem Post.back (a : Post κ B F H σ ρ F1 H1 ρ1) {p : Addr} (h : H1 p = none) : H p = none := by
  cases e : H p with
  | none => rfl
  | some o => obtain ⟨o', h'⟩ := a.sty p o e; rw [h'] at h; cases h
theorem OwnAt.mono {d : D} {p : Addr} (h : OwnAt κ F H d p) (e : Same F F1) (eq : H1 p = H p) : OwnAt κ F1 H1 d p := by
  cases d with
  | lst ds => obtain ⟨vs, a, b⟩ := h; exact ⟨vs, by rw [eq]; exact a, b.mono e⟩
  | dic ks ds => obtain ⟨vs, a, c, b⟩ := h; exact ⟨vs, by rw [eq]; exact a, c, b.mono e⟩
  | obj c ns ds => obtain ⟨dx, vs, a, c, b⟩ := h; exact ⟨dx, vs, by rw [eq]; exact a, c, b.mono e⟩
  | _ => exact h.elim
theorem OwnAt.there {d : D} {p : Addr} (h : OwnAt κ F H d p) : ∃ o, H p = some o := by
  cases d with
  | lst ds => obtain ⟨vs, a, b⟩ := h; exact ⟨_, a⟩
  | dic ks ds => obtain ⟨vs, a, c, b⟩ := h; exact ⟨_, a⟩
  | obj c ns ds => obtain ⟨dx, vs, a, c, b⟩ := h; exact ⟨_, a⟩
  | _ => exact h.elim
/-- the heap grew, the frozen part grew by new things alone -/
theorem EnvOk.grow (e : EnvOk κ B F H σ ρ) (hH : Same H H1) (hF : Same F F1) (hFH : Same F1 H1) (new : ∀ a, F a = none → F1 a ≠ none → H a = none) : EnvOk κ B F1 H1 σ ρ where
  bas := e.bas.trans hH
  sub := hFH
  len := e.len
  fr := fun i d h => let ⟨v, a, b⟩ := e.fr i d h; ⟨v, a, b.mono hF⟩
  ow := fun i d h => by
    obtain ⟨p, a, b, c, o⟩ := e.ow i d h
    obtain ⟨ob, ho⟩ := o.there
    refine ⟨p, a, ?_, c, o.mono hF (by rw [hH _ _ ho, ho])⟩
    cases q : F1 p with
    | none => rfl
    | some z =>
      have := new p b (by rw [q]; simp)
      rw [ho] at this; cases this
  dj := e.dj
theorem Post.grow (e : EnvOk κ B F H σ ρ) (hH : Same H H1) (hF : Same F F1) (hFH : Same F1 H1) (new : ∀ a, F a = none → F1 a ≠ none → H a = none) : Post κ B F H σ ρ F1 H1 ρ :=
  ⟨hF, e.grow hH hF hFH new, fun a o h _ => hH a o h, fun a h h' => .inl (new a h h'), fun _ h => h, fun a o h => ⟨o, hH a o h⟩⟩
theorem Post.heap (e : EnvOk κ B F H σ ρ) (hH : Same H H1) : Post κ B F H σ ρ F H1 ρ :=
  .grow e hH (Same.refl F) (e.sub.trans hH) fun a h h' => absurd h h'
theorem same_new {H : Hp} {p : Addr} {o : HO} (h : H p = none) : Same H (upd H p o) := fun b x e => by
  rw [upd_ne (ne_of_none e h)]
  exact e
/-- a new object, frozen at once -/
theorem Post.newFr {p : Addr} {o : HO} (e : EnvOk κ B F H σ ρ) (h : H p = none) : Post κ B F H σ ρ (upd F p o) (upd H p o) ρ := by
  have hF : F p = none := e.sub.free h
  refine .grow e (same_new h) (same_new hF) (fun b x q => ?_) fun a ha hb => ?_
  · by_cases eb : b = p
    · subst eb; rw [upd_same] at q ⊢; exact q
    · rw [upd_ne eb] at q ⊢; exact e.sub _ _ q
  · by_cases eb : a = p
    · subst eb; exact h
    · rw [upd_ne eb] at hb; exact absurd ha hb

/-! ### results -/
inductive R where
  | val (d : D) | slot (i : Nat) | new (d : D)
def look (ρ : Env') : R → Option D
  | .val d => some d
  | .slot i => match ρ[i]? with
    | some (some (.ow d)) => some d
    | _ => none
  | .new d => some d
def frz (ρ : Env') : R → Option (D × Env')
  | .val d => some (d, ρ)
  | .slot i => match ρ[i]? with
    | some (some (.ow d)) => some (d, ρ.set i (some (.fr d)))
    | _ => none
  | .new d => some (d, ρ)
variable (κ) in
def ROk (B H0 F H : Hp) (σ : L2.St) (ρ : Env') : R → V → Prop
  | .val d, v => Rep κ F d v
  | .slot i, v => (∃ d, ρ[i]? = some (some (.ow d))) ∧ σ[i]? = some (some v)
  | .new d, v => ∃ p, v = .ref p ∧ F p = none ∧ ¬ Root σ ρ p ∧ OwnAt κ F H d p ∧ H0 p = none ∧ B p = none
theorem look_slot {i : Nat} {d : D} (h : look ρ (.slot i) = some d) : ρ[i]? = some (some (.ow d)) := by
  have h' : (match ρ[i]? with
    | some (some (.ow d)) => some d
    | _ => none) = some d := h
  split at h'
  · cases h'; assumption
  · cases h'
theorem frz_slot {i : Nat} {d : D} (h : frz ρ (.slot i) = some (d, ρ1)) : ρ[i]? = some (some (.ow d)) ∧ ρ1 = ρ.set i (some (.fr d)) := by
  have h' : (match ρ[i]? with
    | some (some (.ow d)) => some (d, ρ.set i (some (.fr d)))
    | _ => none) = some (d, ρ1) := h
  split at h'
  · cases h'; exact ⟨by assumption, rfl⟩
  · cases h'
theorem ROk.post {H0 : Hp} {r : R} {v : V} {d : D} (h : ROk κ B H0 F H σ ρ r v) (p : Post κ B F H σ ρ F1 H1 ρ1) (hl : look ρ1 r = some d) : ROk κ B H0 F1 H1 σ ρ1 r v := by
  cases r with
  | val d => exact Rep.mono p.exF _ _ h
  | slot i => exact ⟨⟨d, look_slot hl⟩, h.2⟩
  | new d =>
    obtain ⟨q, rfl, h1, h2, h3, h4, h5⟩ := h
    obtain ⟨o, ho⟩ := h3.there
    refine ⟨q, rfl, ?_, fun z => h2 (p.rts q z), h3.mono p.exF (by rw [p.frm q o ho h2, ho]), h4, h5⟩
    cases e : F1 q with
    | none => rfl
    | some z =>
      rcases p.new q h1 (by rw [e]; simp) with z | z
      · rw [ho] at z; cases z
      · exact absurd z h2
/-- the start may lie further back -/
theorem ROk.back {F0 H0 : Hp} {ρ0 : Env'} {r : R} {v : V} (h : ROk κ B H1 F H σ ρ r v) (p : Post κ B F0 H0 σ ρ0 F1 H1 ρ1) : ROk κ B H0 F H σ ρ r v := by
  cases r with
  | val d => exact h
  | slot i => exact h
  | new d =>
    obtain ⟨q, rfl, h1, h2, h3, h4, h5⟩ := h
    exact ⟨q, rfl, h1, h2, h3, p.back h4, h5⟩

variable (κ) in
/-- what can be read: the list, dict, object itself stands in H, what is in it in F -/
def RdAt (F H : Hp) : D → V → Prop
  | .lst ds, v => ∃ p vs, v = .ref p ∧ H p = some (.lst vs) ∧ RepL κ F ds vs
  | .dic ks ds, v => ∃ p vs, v = .ref p ∧ H p = some (.ext (κ.nd p ks vs)) ∧ ks.length = ds.length ∧ RepL κ F ds vs
  | .obj c ns ds, v => ∃ p dx vs, v = .ref p ∧ H p = some (.ins (He.ga κ.K c) dx (ns.zip vs)) ∧ ns.length = ds.length ∧ RepL κ F ds vs
  | d, v => Rep κ F d v
theorem Rep.rd {d : D} {v : V} (h : Rep κ F d v) (s : Same F H) : RdAt κ F H d v := by
  cases d with
  | lst ds => unfold Rep at h; obtain ⟨p, vs, a, b, c⟩ := h; exact ⟨p, vs, a, s _ _ b, c⟩
  | dic ks ds => unfold Rep at h; obtain ⟨p, vs, a, b, c⟩ := h; exact ⟨p, vs, a, s _ _ b, c⟩
  | obj c ns ds => unfold Rep at h; obtain ⟨p, dx, vs, a, b, c⟩ := h; exact ⟨p, dx, vs, a, s _ _ b, c⟩
  | _ => exact h
theorem OwnAt.rd {d : D} {p : Addr} (h : OwnAt κ F H d p) : RdAt κ F H d (.ref p) := by
  cases d with
  | lst ds => obtain ⟨vs, a, b⟩ := h; exact ⟨p, vs, rfl, a, b⟩
  | dic ks ds => obtain ⟨vs, a, c, b⟩ := h; exact ⟨p, vs, rfl, a, c, b⟩
  | obj c ns ds => obtain ⟨dx, vs, a, c, b⟩ := h; exact ⟨p, dx, vs, rfl, a, c, b⟩
  | _ => exact h.elim
theorem ROk.rd {H0 : Hp} {r : R} {v : V} {d : D} (h : ROk κ B H0 F H σ ρ r v) (e : EnvOk κ B F H σ ρ) (hl : look ρ r = some d) : RdAt κ F H d v := by
  cases r with
  | val d' => cases hl; exact Rep.rd h e.sub
  | slot i =>
    obtain ⟨p, a, _, _, o⟩ := e.ow i d (look_slot hl)
    have hv := h.2
    rw [a] at hv; cases hv
    exact o.rd
  | new d' =>
    cases hl
    obtain ⟨q, rfl, h1, h2, h3, _⟩ := h
    exact h3.rd
/-- freezing an owned object -/
theorem own_frz {d : D} {p : Addr} {o : HO} (h : OwnAt κ F H d p) (ho : H p = some o) (hF : F p = none) : Rep κ (upd F p o) d (.ref p) := by
  have s : Same F (upd F p o) := same_new hF
  cases d with
  | lst ds => obtain ⟨vs, a, b⟩ := h; rw [a] at ho; cases ho; unfold Rep; exact ⟨p, vs, rfl, upd_same, b.mono s⟩
  | dic ks ds => obtain ⟨vs, a, c, b⟩ := h; rw [a] at ho; cases ho; unfold Rep; exact ⟨p, vs, rfl, upd_same, c, b.mono s⟩
  | obj c ns ds => obtain ⟨dx, vs, a, c, b⟩ := h; rw [a] at ho; cases ho; unfold Rep; exact ⟨p, dx, vs, rfl, upd_same, c, b.mono s⟩
  | _ => exact h.elim
theorem same_upd2 {p : Addr} {o : HO} (s : Same F H) (ho : H p = some o) : Same (upd F p o) H := fun b x q => by
  by_cases eb : b = p
  · subst eb; rw [upd_same] at q; rw [ho]; exact q
  · rw [upd_ne eb] at q; exact s _ _ q
theorem set_get {α : Type} {l : List (Option α)} {i j : Nat} {x : Option α} {y : α} (h : (l.set i x)[j]? = some (some y)) : (j = i ∧ x = some y) ∨ (j ≠ i ∧ l[j]? = some (some y)) := by
  by_cases e : j = i
  · subst e
    rw [List.getElem?_set] at h
    simp at h
    exact .inl ⟨rfl, h.2⟩
  · rw [List.getElem?_set_ne (Ne.symm e)] at h
    exact .inr ⟨e, h⟩
theorem ROk.frz {F0 H0 : Hp} {ρ0 : Env'} {r : R} {v : V} {d : D} (h : ROk κ B H0 F H σ ρ r v) (po : Post κ B F0 H0 σ ρ0 F H ρ) (hf : frz ρ r = some (d, ρ1)) : ∃ F1, Post κ B F0 H0 σ ρ0 F1 H ρ1 ∧ Rep κ F1 d v := by
  have e := po.env
  cases r with
  | val d' => cases hf; exact ⟨F, po, h⟩
  | slot i =>
    obtain ⟨h1, rfl⟩ := frz_slot hf
    obtain ⟨p, a, b, c, o⟩ := e.ow i d h1
    obtain ⟨ob, ho⟩ := o.there
    have hv := h.2
    rw [a] at hv; cases hv
    have s : Same F (upd F p ob) := same_new b
    have nr : ∀ j d', j ≠ i → ρ[j]? = some (some (.ow d')) → ∀ q, σ[j]? = some (some (.ref q)) → q ≠ p := fun j d' hj hd q hq z => by
      subst z; exact hj (e.dj j i q d' d hd h1 hq a)
    refine ⟨upd F p ob, po.trans ⟨s, ⟨e.bas, same_upd2 e.sub ho, by rw [List.length_set]; exact e.len, fun j d' hj => ?_, fun j d' hj => ?_, fun j j' q d1 d2 hj hj' => ?_⟩, fun _ _ h _ => h, fun x hx hx' => ?_, fun x hx => ?_, fun _ o h => ⟨o, h⟩⟩, own_frz o ho b⟩
    · rcases set_get hj with ⟨rfl, ez⟩ | ⟨ne, ez⟩
      · cases ez; exact ⟨_, a, own_frz o ho b⟩
      · obtain ⟨v', a', b'⟩ := e.fr j d' ez; exact ⟨v', a', b'.mono s⟩
    · rcases set_get hj with ⟨rfl, ez⟩ | ⟨ne, ez⟩
      · cases ez
      · obtain ⟨p', a', b', c', o'⟩ := e.ow j d' ez
        exact ⟨p', a', by rw [upd_ne (nr j d' ne ez p' a')]; exact b', c', o'.mono s rfl⟩
    · rcases set_get hj with ⟨rfl, ez⟩ | ⟨ne, ez⟩
      · cases ez
      · rcases set_get hj' with ⟨rfl, ez'⟩ | ⟨ne', ez'⟩
        · cases ez'
        · exact e.dj j j' q d1 d2 ez ez'
    · by_cases eb : x = p
      · subst eb; exact .inr ⟨i, d, h1, a⟩
      · rw [upd_ne eb] at hx'; exact absurd hx hx'
    · obtain ⟨j, d', hj, hq⟩ := hx
      rcases set_get hj with ⟨rfl, ez⟩ | ⟨ne, ez⟩
      · cases ez
      · exact ⟨j, d', ez, hq⟩
  | new d' =>
    cases hf
    obtain ⟨q, rfl, h1, h2, h3, h4, h5⟩ := h
    obtain ⟨ob, ho⟩ := h3.there
    have s : Same F (upd F q ob) := same_new h1
    refine ⟨upd F q ob, ⟨po.exF.trans s, ⟨e.bas, same_upd2 e.sub ho, e.len, fun j d' hj => ?_, fun j d' hj => ?_, e.dj⟩, po.frm, fun x hx hx' => ?_, po.rts, po.sty⟩, own_frz h3 ho h1⟩
    · obtain ⟨v', a', b'⟩ := e.fr j d' hj; exact ⟨v', a', b'.mono s⟩
    · obtain ⟨p', a', b', c', o'⟩ := e.ow j d' hj
      have ne : p' ≠ q := fun z => h2 ⟨j, d', hj, by rw [← z]; exact a'⟩
      exact ⟨p', a', by rw [upd_ne ne]; exact b', c', o'.mono s rfl⟩
    · by_cases eb : x = q
      · subst eb; exact .inl h4
      · rw [upd_ne eb] at hx'; exact po.new x hx hx'
end
end DL

set_option Elab.async false
set_option linter.all false
set_option maxRecDepth 100000
/-! DL2: the interpreter on data. -/
namespace DL
open PySem L2

/-- an exception: its class, its attributes -/
structure DX where
  c : Str
  ns : List Str
  ds : List D
/-- what a def does: arguments, the wish of its value, the wish of an exception -/
abbrev Sm := List D → (D → Prop) → (DX → Prop) → Prop
inductive GV where
  | val (d : D) | fn (f : Sm) | cls (c : Str) (f : Sm) | blt | bty (n : String)
abbrev TyN := Sum String Str
/-- further facts -/
inductive Fx where
  | eqc (c : Str) (t : TyN)
  | lend (x : Str)
  | exc (c f : Str)
  | xat (c f : Str)
  | isx (c : Str) (t : TyN) (b : Bool)
  | exm (c c' : Str) (b : Bool)
  | src
deriving DecidableEq
structure Tab where
  N : List Str
  nm : List (Str × NameKind)
  g : List (Str × GV)
  ms : List ((Str × Str) × Sm)
  isa : List ((TyN × TyN) × Bool)
  fls : List (Str × Str)
  fx : List Fx
  fn : Str → Bool := fun _ => true
  /-- methods of classes -/
  cm : List ((Str × Str) × Sm) := []
  /-- the defs named let out exceptions whose context is None alone -/
  cold : Bool := true
  /-- so does the def itself -/
  out : Bool := true
  /-- statements, no comprehension's block -/
  stm : Bool := true

def slotOf (N : List Str) (x : Str) : Option Nat := N.findIdx? (· == x)
def badName (x : Str) : Bool := x == ("__debug__" : Str) || x == ("__classdict__" : Str)
abbrev KR := R → Env' → Prop
abbrev KRs := List R → Env' → Prop
abbrev KD := D → Env' → Prop
abbrev KDs := List D → Env' → Prop

def dSlot (ρ : Env') (k : KR) (i : Nat) : Prop := match ρ[i]? with
  | some (some (.fr d)) => k (.val d) ρ
  | some (some (.ow _)) => k (.slot i) ρ
  | _ => False
def dGlob (o : Option GV) (ρ : Env') (k : KR) : Prop := match o with
  | some (.val d) => k (.val d) ρ
  | some (.bty n) => k (.val (.ty n)) ρ
  | some (.cls c _) => k (.val (.cl c)) ρ
  | _ => False
def dName (T : Tab) (x : Str) (ρ : Env') (k : KR) : Prop := badName x = false ∧ match T.nm.lookup x with
  | some .globalImplicit => dGlob (T.g.lookup x) ρ k
  | some .local => (match slotOf T.N x with | some i => dSlot ρ k i | none => False)
  | some .cell => (match slotOf T.N x with | some i => dSlot ρ k i | none => False)
  | some .free => (match slotOf T.N x with | some i => dSlot ρ k i | none => False)
  | _ => False
def dConst (c : Const) (ρ : Env') (k : KR) : Prop := match c with
  | .none => k (.val .non) ρ
  | .bool b => k (.val (.bl b)) ρ
  | .int i => k (.val (.int i)) ρ
  | .str x => k (.val (.str x)) ρ
  | _ => False

/-- the frozen value of a result -/
def frK (k : KD) : KR := fun r ρ => match frz ρ r with
  | some (d, ρ') => k d ρ'
  | none => False
def looks (ρ : Env') : List R → Option (List D)
  | [] => some []
  | r :: rs => match look ρ r, looks ρ rs with
    | some d, some ds => some (d :: ds)
    | _, _ => none

section
variable (f : Expr → Env' → KR → Prop)
def dRs : List Expr → Env' → KRs → Prop
  | [], ρ, k => k [] ρ
  | e :: es, ρ, k => f e ρ fun r ρ1 => dRs es ρ1 fun rs ρ2 => k (r :: rs) ρ2
def dVs : List Expr → Env' → KDs → Prop
  | [], ρ, k => k [] ρ
  | e :: es, ρ, k => f e ρ (frK fun d ρ1 => dVs es ρ1 fun ds ρ2 => k (d :: ds) ρ2)
end

mutual
/-- no list in it -/
def noLst : D → Bool
  | .lst _ => false
  | .tup xs => noLstL xs
  | .dic _ xs => noLstL xs
  | .obj _ _ xs => noLstL xs
  | _ => true
def noLstL : List D → Bool
  | [] => true
  | d :: ds => noLst d && noLstL ds
end
section
variable (f : Expr → Env' → KR → Prop)
def dLs : List Expr → Env' → KRs → Prop
  | [], ρ, k => k [] ρ
  | e :: es, ρ, k => f e ρ fun r ρ1 => match r with
    | .slot i => dLs es ρ1 fun rs ρ2 => k (.slot i :: rs) ρ2
    | .val d => dLs es ρ1 fun rs ρ2 => k (.val d :: rs) ρ2
    | .new d => dLs es ρ1 fun rs ρ2 => k (.val d :: rs) ρ2
def lentOk : List R → List D → Bool
  | [], [] => true
  | .slot _ :: rs, .lst _ :: ds => lentOk rs ds
  | .slot _ :: _, _ => false
  | .val _ :: rs, _ :: ds => lentOk rs ds
  | _, _ => false
def slotR : R → Bool
  | .slot _ => true
  | _ => false
/-- what is wanted behind a call -/
def lentK (rs : List R) (ρ : Env') (k : KR) (d : D) : Prop := if rs.any slotR = true then noLst d = true ∧ k (.val d) ρ else k (.val d) ρ
def dLend (args : List Expr) (ρ : Env') (k : KR) (call : List D → (D → Prop) → Prop) : Prop := dLs f args ρ fun rs ρ1 => match looks ρ1 rs with
  | some ds => lentOk rs ds = true ∧ call ds (lentK rs ρ1 k)
  | none => False
end
/-! ### operators -/
def cmulB (i j : Int) : Bool := (decide (-(2 ^ 64) < i) && decide (i < 2 ^ 64)) || (decide (-(2 ^ 64) < j) && decide (j < 2 ^ 64))
def dOp : Operator → D → D → (R → Prop) → Prop
  | .Add, .int i, .int j, k => k (.val (.int (i + j)))
  | .Add, .str x, .str y, k => x.length + y.length ≤ sizeLine ∧ k (.val (.str (x ++ y)))
  | .Add, .lst x, .lst y, k => x.length + y.length ≤ sizeLine ∧ k (.new (.lst (x ++ y)))
  | .Add, .tup x, .tup y, k => x ≠ [] ∧ x.length + y.length ≤ sizeLine ∧ k (.val (.tup (x ++ y)))
  | .Sub, .int i, .int j, k => k (.val (.int (i - j)))
  | .Mult, .int i, .int j, k => CMul i j ∧ k (.val (.int (i * j)))
  | .Mult, .lst x, .int j, k => (-(2 ^ 63) ≤ j ∧ j < 2 ^ 63 ∧ x.length * j.toNat ≤ sizeLine) ∧ k (.new (.lst (List.replicate j.toNat x).flatten))
  | .FloorDiv, .int i, .int j, k => CDiv i j ∧ k (.val (.int (i / j)))
  | .Mod, .int i, .int j, k => 0 < j ∧ k (.val (.int (i % j)))
  | .Pow, .int i, .int j, k => CPow i j ∧ k (.val (.int (i ^ j.toNat)))
  | _, _, _, _ => False

mutual
def toPy : D → Option PyData
  | .non => some .none
  | .bl b => some (.bool b)
  | .int i => some (.int i)
  | .str x => some (.str x)
  | .lst xs => (toPys xs).map .list
  | .tup xs => (toPys xs).map .tuple
  | _ => none
def toPys : List D → Option (List PyData)
  | [] => some []
  | d :: ds => match toPy d, toPys ds with
    | some p, some ps => some (p :: ps)
    | _, _ => none
end
def isNon : D → Bool
  | .non => true
  | _ => false
/-- flat values -/
def flatD : D → Bool
  | .non | .bl _ | .int _ | .str _ => true
  | _ => false
def eqD : D → D → Bool
  | .non, .non => true
  | .bl a, .bl b => a == b
  | .bl a, .int j => (if a then 1 else 0) == j
  | .int i, .bl b => i == (if b then 1 else 0)
  | .int i, .int j => i == j
  | .str x, .str y => x == y
  | _, _ => false
/-- d == e -/
def dEq (d e : D) (k : Bool → Prop) : Prop := match d, e with
  | .int i, .int j => k (decide (i = j))
  | .str x, .str y => k (decide (x = y))
  | .bl a, .bl b => k (decide (a = b))
  | d, e => ∃ p q, toPy d = some p ∧ toPy e = some q ∧ SeqAt.shaped p = true ∧ SeqAt.shaped q = true ∧ k (PyData.eqv p q)
/-- a dict's key -/
def keyD : D → Option (Option Key)
  | .non => some none
  | .int i => some (some (.inl i))
  | .str x => some (some (.inr x))
  | _ => none
def dIn (d e : D) (k : Bool → Prop) : Prop := match e with
  | .dic ks _ => (match keyD d with
    | some key => k (ks.any fun j => decide (j = key))
    | none => False)
  | .lst xs => flatD d = true ∧ xs.all flatD = true ∧ k (xs.any fun y => eqD y d)
  | .tup xs => flatD d = true ∧ xs.all flatD = true ∧ k (xs.any fun y => eqD y d)
  | .str y => (match d with
    | .str x => k (!(Builtin.Str.occurrences y x 0 y.length 1).isEmpty)
    | _ => False)
  | _ => False
def dCmp : CmpOp → D → D → (Bool → Prop) → Prop
  | .Eq, d, e, k => dEq d e k
  | .NotEq, d, e, k => dEq d e fun b => k (!b)
  | .Lt, .int i, .int j, k => k (decide (i < j))
  | .LtE, .int i, .int j, k => k (decide (i ≤ j))
  | .Gt, .int i, .int j, k => k (decide (j < i))
  | .GtE, .int i, .int j, k => k (decide (j ≤ i))
  | .Is, d, .non, k => k (isNon d)
  | .IsNot, d, .non, k => k (!isNon d)
  | .In, d, e, k => dIn d e k
  | .NotIn, d, e, k => dIn d e fun b => k (!b)
  | _, _, _, _ => False

/-! ### built-ins -/
def tyN : D → Option TyN
  | .non => some (.inl "NoneType")
  | .bl _ => some (.inl "bool")
  | .int _ => some (.inl "int")
  | .str _ => some (.inl "str")
  | .lst _ => some (.inl "list")
  | .tup _ => some (.inl "tuple")
  | .obj c _ _ => some (.inr c)
  | _ => none
def isi1 (isa : List ((TyN × TyN) × Bool)) (t c : TyN) : Option Bool := isa.lookup (t, c)
def clN : D → Option TyN
  | .ty n => some (.inl n)
  | .cl c => some (.inr c)
  | _ => none
def isiAny (isa : List ((TyN × TyN) × Bool)) (t : TyN) : List D → Option Bool
  | [] => some false
  | c :: cs => match clN c, isiAny isa t cs with
    | some c, some r => (match isi1 isa t c with
      | some b => some (b || r)
      | none => none)
    | _, _ => none
def dIsi (isa : List ((TyN × TyN) × Bool)) (d c : D) : Option Bool := match tyN d with
  | none => none
  | some t => (match c with
    | .tup (c :: cs) => isiAny isa t (c :: cs)
    | c => (match clN c with
      | some c => isi1 isa t c
      | none => none))
def bools : List D → Option (List Bool)
  | [] => some []
  | .bl b :: r => (bools r).map (b :: ·)
  | _ :: _ => none
/-- the built-in functions -/
def bltIds : List (Str × String) := [("len", "len"), ("isinstance", "isinstance"), ("all", "all"), ("any", "any"), ("repr", "repr"), ("max", "max"), ("min", "min"), ("abs", "abs")]
/-- a built-in function, by its name -/
def dBlt (T : Tab) (x : String) (ds : List D) (k : R → Prop) : Prop := match x with
  | "len" => (match ds with
    | [.str z] => z.length ≤ sizeLine ∧ k (.val (.int z.length))
    | [.lst xs] => k (.val (.int xs.length))
    | [.tup xs] => k (.val (.int xs.length))
    | [.scr xs] => k (.val (.int xs.length))
    | [.dic ks _] => k (.val (.int ks.length))
    | _ => False)
  | "isinstance" => (match ds with
    | [d, c] => (match dIsi T.isa d c with | some b => k (.val (.bl b)) | none => False)
    | _ => False)
  | "all" => (match ds with
    | [.lst xs] => (match bools xs with | some bs => k (.val (.bl (bs.all id))) | none => False)
    | _ => False)
  | "any" => (match ds with
    | [.lst xs] => (match bools xs with | some bs => k (.val (.bl (bs.any id))) | none => False)
    | _ => False)
  | "repr" => (match ds with
    | [d] => ∃ p, toPy d = some p ∧ p.showable = true ∧ p.depth ≤ 64 ∧ p.shown.length ≤ sizeLine ∧ k (.val (.str p.shown))
    | _ => False)
  | "max" => (match ds with
    | [.int i, .int j] => k (.val (.int (if j > i then j else i)))
    | _ => False)
  | "min" => (match ds with
    | [.int i, .int j] => k (.val (.int (if j < i then j else i)))
    | _ => False)
  | "abs" => (match ds with
    | [.int i] => k (.val (.int (if i < 0 then -i else i)))
    | _ => False)
  | _ => False
/-- a built-in type called -/
def btys : List String := ["int", "list", "tuple", "str"]
def dBty (n : String) (ds : List D) (k : R → Prop) : Prop := match n, ds with
  | "int", [.int i] => k (.val (.int i))
  | "int", [.bl b] => k (.val (.int (if b then 1 else 0)))
  | "int", [.str z] => (match PySem.intText? z with
    | some n => z.length ≤ 640 ∧ k (.val (.int n))
    | none => False)
  | "str", [.int i] => i.natAbs.log2 < 1920 ∧ k (.val (.str (toString i : String)))
  | "str", [.str z] => k (.val (.str z))
  | "list", [.lst xs] => k (.new (.lst xs))
  | "list", [.tup xs] => k (.new (.lst xs))
  | "tuple", [.lst xs] => k (.val (.tup xs))
  | "tuple", [.tup xs] => k (.val (.tup xs))
  | _, _ => False

/-! ### subscripts -/
/-- one object alone -/
def ownOf1 : List R → Option (Str × D)
  | [.val (.obj c ns xs)] => some (c, .obj c ns xs)
  | _ => none
def lenBk (k : R → Prop) : D → Prop
  | .int n => (0 ≤ n ∧ n < 2 ^ 63) ∧ k (.val (.int n))
  | _ => False
def strBk (k : R → Prop) : D → Prop
  | .str z => k (.val (.str z))
  | _ => False
def dOwn1 (T : Tab) (xk : DX → Prop) (m c : Str) (d : D) (k : D → Prop) : Prop := match T.ms.lookup (c, m) with
  | some sm => sm [d] k xk
  | none => False
def dBltX (T : Tab) (xk : DX → Prop) (id : String) (rs : List R) (ρ : Env') (k : R → Prop) : Prop := match (if id = "len" then ownOf1 rs else none) with
  | some (c, d) => dOwn1 T xk "__len__" c d (lenBk k)
  | none => (match looks ρ rs with
    | some ds => dBlt T id ds k
    | none => False)
def dBtyX (T : Tab) (xk : DX → Prop) (ty : String) (rs : List R) (ρ : Env') (k : R → Prop) : Prop := match (if ty = "str" then ownOf1 rs else none) with
  | some (c, d) => dOwn1 T xk "__str__" c d (strBk k)
  | none => (match looks ρ rs with
    | some ds => dBty ty ds k
    | none => False)
def getG {α : Type} (key : Option Key) : List (Option Key) → List α → Option α
  | k :: ks, x :: xs => if k = key then some x else getG key ks xs
  | _, _ => none
/-- in its place, or at the end -/
def putG {α : Type} (key : Option Key) (a : α) : List (Option Key) → List α → List (Option Key) × List α
  | k :: ks, x :: xs => if k = key then (k :: ks, a :: xs) else (k :: (putG key a ks xs).1, x :: (putG key a ks xs).2)
  | _, _ => ([key], [a])
/-- a key of a dict comprehension -/
def keyK : D → Option Key
  | .int i => some (.inl i)
  | .str x => some (.inr x)
  | _ => none
def dIx (d i : D) (k : R → Prop) : Prop := match d, i with
  | .lst xs, .int i => (match atI xs i with | some v => k (.val v) | none => False)
  | .tup xs, .int i => (match atI xs i with | some v => k (.val v) | none => False)
  | .scr ns, .int i => (match atI ns i with | some v => k (.val (.int v)) | none => False)
  | .str z, .int i => z.length ≤ sizeLine ∧ (match atI z.cps.toList i with | some c => k (.val (.str ⟨#[c]⟩)) | none => False)
  | .dic ks xs, i => (match keyD i with
    | some key => (match getG key ks xs with | some v => k (.val v) | none => False)
    | none => False)
  | _, _ => False
def cutL {α : Type} (xs : List α) (lo hi : Option Int) : List α := (xs.drop (HT.sIx xs.length 0 lo)).take (HT.sIx xs.length xs.length hi - HT.sIx xs.length 0 lo)
def dSl (d : D) (lo hi : Option Int) (k : R → Prop) : Prop := match d with
  | .lst xs => k (.new (.lst (cutL xs lo hi)))
  | .scr ns => k (.new (.lst ((cutL ns lo hi).map D.int)))
  | .tup xs => k (.val (.tup (cutL xs lo hi)))
  | .str z => z.length ≤ sizeLine ∧ k (.val (.str (cutS z lo hi)))
  | _ => False
def dRev (d : D) (k : R → Prop) : Prop := match d with
  | .lst xs => k (.new (.lst xs.reverse))
  | _ => False
def revStep : Option Expr → Bool
  | some (.UnaryOp .USub (.Constant (.int 1) _ _) _) => true
  | _ => false

def isStar : Expr → Bool
  | .Starred .. => true
  | _ => false
def noSet : Expr → Bool
  | .Set .. => false
  | _ => true
/-- not super() and its like -/
def plainBase : Expr → Bool
  | .Call (.Name _ _) [] [] _ => false
  | _ => true
def methOk (o : Expr) (apos pos : Pos) (args : List Expr) : Bool := plainBase o && ((apos.endLine == pos.line) && (decide (args.length < 30) && !args.any isStar))
/-! ### methods of built-in types -/
inductive MK where
  | own | list | str
def listMs : List Str := ["append", "pop", "insert", "reverse"]
def strMs : List Str := ["split", "join", "removeprefix"]
def methKind (m : Str) : MK := if listMs.contains m then .list else if strMs.contains m then .str else .own
def txts : List D → Option (List Str)
  | [] => some []
  | .str z :: r => (txts r).map (z :: ·)
  | _ :: _ => none
/-- the list in the slot i becomes another one -/
def dListM (m : Str) (r : R) (ds : List D) (ρ : Env') (k : KR) : Prop := match r with
  | .slot i => (match look ρ (.slot i) with
    | some (.lst xs) =>
      if m = ("append" : Str) then (match ds with
        | [d] => xs.length < sizeLine ∧ k (.val .non) (ρ.set i (some (.ow (.lst (xs ++ [d])))))
        | _ => False)
      else if m = ("pop" : Str) then (match ds with
        | [.int j] => (-(2 ^ 63) ≤ j ∧ j < 2 ^ 63) ∧ (match seqIndex? j xs.length with
          | some q => (match xs[q]? with
            | some y => k (.val y) (ρ.set i (some (.ow (.lst (xs.eraseIdx q)))))
            | none => False)
          | none => False)
        | _ => False)
      else if m = ("insert" : Str) then (match ds with
        | [.int j, d] => (xs.length < sizeLine ∧ 0 ≤ j ∧ j < 2 ^ 63) ∧ k (.val .non) (ρ.set i (some (.ow (.lst (xs.take j.toNat ++ [d] ++ xs.drop j.toNat)))))
        | _ => False)
      else if m = ("reverse" : Str) then (match ds with
        | [] => k (.val .non) (ρ.set i (some (.ow (.lst xs.reverse))))
        | _ => False)
      else False
    | _ => False)
  | _ => False
/-- a method of a text -/
def dStrM (m : Str) (x : Str) (ds : List D) (k : R → Prop) : Prop :=
  if m = ("split" : Str) then (match ds with
    | [.str b] => ((b.length == 0) = false ∧ x.length + 2 ≤ sizeLine) ∧ k (.new (.lst ((Txt.split x b).map D.str)))
    | _ => False)
  else if m = ("join" : Str) then (match ds with
    | [.lst ys] => (match txts ys with
      | some zs => (zs.map (·.length)).sum + zs.length * x.length ≤ 16777216 ∧ k (.val (.str (Txt.join x zs)))
      | none => False)
    | [.tup ys] => (match txts ys with
      | some zs => (zs.map (·.length)).sum + zs.length * x.length ≤ 16777216 ∧ k (.val (.str (Txt.join x zs)))
      | none => False)
    | _ => False)
  else if m = ("removeprefix" : Str) then (match ds with
    | [.str b] => x.length ≤ sizeLine ∧ k (.val (.str (Txt.removeprefix x b)))
    | _ => False)
  else False
end DL

set_option Elab.async false
set_option linter.all false
set_option maxRecDepth 100000
set_option maxHeartbeats 2000000
/-! DLx1: an own exception whose __init__ says super().__init__(x); self.f = x. -/
namespace DL
open PySem PySem.W PySem.Calls PySem.Spec PyProof.Rows
/-- the def's text -/
def initB (s x f : Str) (p0 p1 p2 p3 p4 p5 p6 p7 p8 p9 : Pos) : List Stmt :=
  [.Expr (.Call (.Attribute (.Call (.Name "super" p0) [] [] p1) "__init__" p2) [.Name x p3] [] p4) p5, .Assign [.Attribute (.Name s p6) f p7] (.Name x p8) p9]
section
variable {prog : Program} {w : World} {A : Around} {E : Value → Shared → Prop} {K : Frag} {C fI cc : Addr} {B newId initId : String} {bmB : List Value} {hp : Heap} {g : Array GenState} {dr : Drawn} {tk : Nat} {os : OsState}
theorem exc_make {v : Value} {Q : Value → Shared → Prop} (X : K.In hp) (FB : ExcBaseFacts B newId initId bmB) (hi : findIn K (.ref C) "__init__" = some (some (.ref fI))) (q : excInitIn K C bmB newId = true) (hf : isFn K (.ref fI) = true)
    (h : ∀ e t : Addr, e = hp.objs.size + 1 → t = hp.objs.size → codeAny (model prog w) (A.under (.builtin "type.__call__" ⟨[.ref C, v], []⟩)) (.call (.ref fI) ⟨[.ref e, v], []⟩) (InitBack e fun r s' => match r with | .ok (.ret v) => Q v s' | .ok _ => False | .error x => E x s')
      ⟨(hp.push (excTup [v])).push (excObj C t none .none), g, dr, tk, os⟩) :
    wpAny (model prog w) A (call (.ref C) [v]) Q E ⟨hp, g, dr, tk, os⟩ := by
  obtain ⟨nm, N', qn, bs, bm, hdct, sn, sub, ab, col, dd, k0, k1, k2, k3, k5, hC, hT⟩ := excInit_of X q
  obtain ⟨oI, hoI, hcI⟩ : ∃ oI, hp.get? fI = some oI ∧ oI.cls = .type "function" := by
    obtain ⟨o, ho, hc⟩ := Option.map_eq_some_iff.mp (show (K.lookup fI).map (·.cls) = some (.type "function") from beq_iff_eq.mp hf)
    exact ⟨o, X _ _ ho, hc⟩
  have hi' : Looks (model prog w) hp (typeLookup (.ref C) "__init__") (some (.ref fI)) := looks_findIn X hi
  refine wpAny_call (PX.call_own FB hT hC hi' (fun self => exc_bind hoI hcI self) (by show 1 ≤ sizeLine; rw [sizeLine_eq]; decide) (codeAny_mono (h _ _ rfl rfl) fun r s' z => ?_))
  first | exact z | (cases r <;> exact z)
end
end DL

set_option Elab.async false
set_option linter.all false
set_option maxRecDepth 100000
set_option maxHeartbeats 2000000
/-! DLx2: the def of such an __init__, run. -/
namespace DL
open PySem PySem.W PySem.Calls PySem.Spec PyProof.Rows
/-- facts of the class and its __init__ in the written part -/
structure SInit (P : Program) (K : Frag) (C D fI cc cda : Addr) (B newId initId : String) (bmB : List Value) (name qual : Str) (params : Arguments) (scope : Scope) (dV kV doc pm : Value) (an : Option Addr) (ct : Value) (s x f : Str) (p0 p1 p2 p3 p4 p5 p6 p7 p8 p9 : Pos) : Prop where
  FB : ExcBaseFacts B newId initId bmB
  KF : KxsFacts B initId
  SF : StoreFacts B bmB "object.__setattr__" "object"
  hi : findIn K (.ref C) "__init__" = some (some (.ref fI))
  q : excInitIn K C bmB newId = true
  hf : isFn K (.ref fI) = true
  ho : ∃ oc od osl, K.lookup fI = some ⟨oc, od, .func (ksFn name qual params (initB s x f p0 p1 p2 p3 p4 p5 p6 p7 p8 p9) scope dV kV doc pm an (.ref cda) ct cc), osl⟩
  hcd : codeIn K (.ref cda) qual = true
  hcode : ∃ ccl cdd vs ccs file tf, K.lookup cda = some ⟨ccl, cdd, .fields vs, ccs⟩ ∧ vs[2]? = some (.str file tf) ∧ ((P.main.file : Str) == file) = true
  hcell : ∃ cl cld csl, K.lookup cc = some ⟨cl, cld, .cell (some (.ref D)), csl⟩
  hD : ∃ cdD, clsIn K D = some cdD
  hsub : mroIn K C (.ref D) = some true
  hop : nsIn K cStatics "thirdparty.any" = some none
  hsup : ks_superIn K C D "__init__" = some (some (.builtin initId))
  hB : subIn K (.ref C) (.type B) = some true
  hsa : findIn K (.ref C) "__setattr__" = some (some (.builtin "object.__setattr__"))
  hover : excOver K C bmB = true
  htk : takerIn K C f = some none
  hhd : hasDictIn K C = true
  bind : ∀ a b : Value, bindArgs (ksFn name qual params (initB s x f p0 p1 p2 p3 p4 p5 p6 p7 p8 p9) scope dV kV doc pm an (.ref cda) ct cc) ⟨[a, b], []⟩ = pure [(s, a), (x, b)]
  par : ∃ ar, (params.posonlyargs ++ params.args).head? = some ar ∧ ar.arg = s
  ks : scope.names.lookup ("super" : Str) = some .globalImplicit
  kc : scope.names.lookup ("__class__" : Str) = some .free
  k1 : scope.names.lookup s = some .local
  k2 : scope.names.lookup x = some .local
  kk : scope.kind = .function
  nc : ∀ y ∈ scope.names, y.2 ≠ .cell
  co : scope.isCoroutine = false
  ge : scope.isGenerator = false
  top : (P.main.scope.names.lookup ("super" : Str)).isSome = false
  sx : s ≠ x
  intr : ∀ L, interactive (ksEnv qual scope L fI (.ref cda) cc) = false
  sw1 : ∀ L, swapsWith (.Call (.Attribute (.Call (.Name "super" p0) [] [] p1) "__init__" p2) [.Name x p3] [] p4) none p5.line (ksEnv qual scope L fI (.ref cda) cc) = pure false
  sw2 : ∀ L, swapsWith (.Name x p8) (some (.Attribute (.Name s p6) f p7)) p9.line (ksEnv qual scope L fI (.ref cda) cc) = pure false
  evc : ∃ pl : Addr → Sem Bool, ∀ L, eval (.Call (.Attribute (.Call (.Name "super" p0) [] [] p1) "__init__" p2) [.Name x p3] [] p4) (ksEnv qual scope L fI (.ref cda) cc) = (do
      let ov ← attributeBase (.Call (.Name "super" p0) [] [] p1) "__init__" (ksEnv qual scope L fI (.ref cda) cc) (eval (.Call (.Name "super" p0) [] [] p1) (ksEnv qual scope L fI (.ref cda) cc))
      standAt p2.atName
      let (f, first) ← holding [ov] (getMethod ov "__init__" (pl L))
      callWith p4 f first (backTo p4 (starEach [.Name x p3] (ksEnv qual scope L fI (.ref cda) cc))) [])
  dbs : (s == ("__debug__" : Str)) = false
  dbx : (x == ("__debug__" : Str)) = false
section
variable {prog : Program} {w : World} {A : Around} {mg mb : Str → Option Value} {K : Frag} {C D fI cc cda : Addr} {B newId initId : String} {bmB : List Value} {name qual : Str} {params : Arguments} {scope : Scope} {dV kV doc pm : Value} {an : Option Addr} {ct : Value} {sn x f : Str}
  {p0 p1 p2 p3 p4 p5 p6 p7 p8 p9 : Pos} {hp : Heap} {g : Array GenState} {dr : Drawn} {tk : Nat} {os : OsState} {R : Result → Shared → Prop} {e t : Addr} {v : Value}
theorem init_run (S : SInit prog K C D fI cc cda B newId initId bmB name qual params scope dV kV doc pm an ct sn x f p0 p1 p2 p3 p4 p5 p6 p7 p8 p9) (X : K.In hp) (hg : hp.Ns mainGlobals mg) (hms : mg "super" = none) (hb : hp.Ns builtinsNs mb) (hbs : mb "super" = some (.type "super"))
    (hlim : hp.NoLimit) (hroom : A.depth < recursionLimit) (he : e = hp.objs.size + 1) (ht : t = hp.objs.size)
    (h : ∀ h' t' dx tk', (∀ b o, hp.get? b = some o → h'.get? b = some o) → h'.get? e = some (excObj C t' (some dx) .none) → hp.objs.size ≤ dx → dx ≠ e → h'.Ns1 dx (fun y => if y = f then some v else none) → R (.ok (.ret .none)) ⟨h', g, dr, tk', os⟩) :
    codeAny (model prog w) A (.call (.ref fI) ⟨[.ref e, v], []⟩) R ⟨(hp.push (excTup [v])).push (excObj C t none .none), g, dr, tk, os⟩ := by
  obtain ⟨oc, od, osl, ho⟩ := S.ho
  obtain ⟨ccl, cdd, vs, ccs, file, tf, hcode, hvs, hfile⟩ := S.hcode
  obtain ⟨cl, cld, csl, hcell⟩ := S.hcell
  obtain ⟨cdD, hD⟩ := S.hD
  obtain ⟨ar, hpar, har⟩ := S.par
  have k0 : ∀ b o, hp.get? b = some o → ((hp.push (excTup [v])).push (excObj C t none .none)).get? b = some o := fun b o z => Heap.get?_push_of_some _ (Heap.get?_push_of_some _ z)
  have ge0 : ((hp.push (excTup [v])).push (excObj C t none .none)).get? e = some (excObj C t none .none) := by subst he; heap_get
  refine ks_codeAny_call_defAt (fd := ksFn name qual params (initB sn x f p0 p1 p2 p3 p4 p5 p6 p7 p8 p9) scope dV kV doc pm an (.ref cda) ct cc) (body := initB sn x f p0 p1 p2 p3 p4 p5 p6 p7 p8 p9) (binds := [(sn, .ref e), (x, v)]) hroom (k0 _ _ (X _ _ ho)) rfl (hlim.keeps k0) (codeRec_of (X.keeps k0) S.hcd) rfl (.of_eq (S.bind _ _)) S.nc
    (fun y hy => ?_) (fun h₁ hns hk₁ => ?_) S.co S.ge S.kk
  · rcases List.mem_cons.mp hy with rfl | hy
    · exact S.k1
    · rcases List.mem_cons.mp hy with rfl | hy
      · exact S.k2
      · cases hy
  have hsz : ((hp.push (excTup [v])).push (excObj C t none .none)).objs.size = hp.objs.size + 2 := by simp [Heap.push]
  have mS : ([(sn, Value.ref e), (x, v)] : List (Str × Value)).reverse.lookup sn = some (.ref e) := by
    show (match (sn == x : Bool) with | true => some v | false => List.lookup sn [(sn, Value.ref e)]) = _
    rw [beq_false_of_ne S.sx]
    simp [List.lookup]
  have mX : ([(sn, Value.ref e), (x, v)] : List (Str × Value)).reverse.lookup x = some v := by
    show (match (x == x : Bool) with | true => some v | false => List.lookup x [(sn, Value.ref e)]) = _
    rw [beq_self_eq_true]
  have eL : e < hp.objs.size + 2 := by rw [he]; exact Nat.lt_succ_self _
  have eG : hp.objs.size ≤ e := by rw [he]; exact Nat.le_succ _
  have hL2 : hp.objs.size + 2 ≤ ((hp.push (excTup [v])).push (excObj C t none .none)).objs.size := Nat.le_of_eq hsz.symm
  clear hsz
  generalize hLL : ((hp.push (excTup [v])).push (excObj C t none .none)).objs.size = L at *
  generalize hmm : (fun y => ([(sn, Value.ref e), (x, v)] : List (Str × Value)).reverse.lookup y) = m at *
  replace mS : m sn = some (.ref e) := by rw [← hmm]; exact mS
  replace mX : m x = some v := by rw [← hmm]; exact mX
  have F1 : Fr hp L h₁ m := ⟨hns, fun b o z => hk₁ b o (k0 b o z), Nat.le_trans (Nat.le_add_right _ 2) hL2⟩
  have N1 : News hp L h₁ [(e, excObj C t none .none)] := fun p hp' => by
    rcases List.mem_cons.mp hp' with rfl | hp'
    · refine ⟨hk₁ _ _ ge0, Nat.ne_of_lt (Nat.lt_of_lt_of_le eL hL2), ?_⟩
      cases z : hp.get? e with
      | none => rfl
      | some o => exact absurd (Heap.lt_size z) (Nat.not_lt.mpr eG)
    · cases hp'
  obtain ⟨oD, hD1, hD2⟩ : ∃ oD, hp.get? D = some oD ∧ oD.data = .cls cdD := by
    unfold clsIn at hD
    split at hD
    · rename_i c d cd' sl ho
      cases hD
      exact ⟨_, X _ _ ho, rfl⟩
    · cases hD
  have I1 : InstAt h₁ e (excObj C t none .none) C none := InstAt.of_exc0 N1 (by simp)
  show PySem.wpAt (model prog w) _ (.func _ (ksEnv qual scope L fI (.ref cda) cc)) (execs (initB sn x f p0 p1 p2 p3 p4 p5 p6 p7 p8 p9) (ksEnv qual scope L fI (.ref cda) cc)) _ _ _
  unfold initB
  obtain ⟨pl, hev⟩ := S.evc
  refine ks_wpAt_execs_cons (ks_wpAt_Expr_any (ks_wpAt_MethodCall ?_ (hev L)) (S.intr L) (S.sw1 L))
  refine ks_wpAt_super_base (env := ksEnv qual scope L fI (.ref cda) cc) S.ks S.kc (by decide) rfl (F1.keep _ _ (X _ _ ho)) rfl hpar rfl (F1.keep _ _ (X _ _ hcode)) rfl hvs hfile S.top ?_
  refine ks_loadName_global S.kk S.ks (loadGlobal_builtin (env := ksEnv qual scope L fI (.ref cda) cc) (hg.keeps F1.keep) hms (hb.keeps F1.keep) hbs ⟨rfl, ?_⟩)
  refine wpAny_loadName_free S.kk S.kc rfl ⟨_, F1.keep _ _ (X _ _ hcell), rfl⟩ ?_
  refine wpAny_loadName_local S.kk (by rw [har]; exact S.k1) F1.ns (by rw [har]; exact mS) ?_
  refine ks_wpAny_isType_cls (F1.keep _ _ hD1) hD2 ⟨rfl, ?_⟩
  refine ks_wpAny_call_super (F1.keep _ _ hD1) hD2 I1.at_ I1.cls (fun c z => by cases z) (looks_mroIn (X.keeps F1.keep) S.hsub) (fun h2 e2 k2 => ?_)
  obtain ⟨F2, N2, l2⟩ := ks_newsPush (s := ⟨h₁, g, dr, tk, os⟩) F1 N1 rfl e2 k2
  have I2 : InstAt h2 e (excObj C t none .none) C none := InstAt.of_exc0 N2 (by simp)
  refine kxs_method S.KF F2 X N2 (List.mem_cons_self ..) I2 S.hop S.hsup S.hB (by decide) fun q h3 F3 N3 l3 => ?_
  refine kxs_callWith1 (i := initId) (x := e) N3 (List.mem_cons_self ..) ?_
  refine spliced_more (wpAny_Name (wpAny_loadName_local S.kk S.k2 F3.ns mX (spliced_none ⟨kxs_at N3 (List.mem_cons_self ..), ?_⟩)) S.dbx) rfl
  have ne3 : ∀ {y : Addr}, (∀ p ∈ [(e, excObj C t none .none)], p.1 < y) → y ≠ e := fun {y} hy => Nat.ne_of_gt (hy (e, excObj C t none .none) (by simp))
  have soe : h₁.objs.size ≠ e := ne3 l2
  have qe : q ≠ e := Nat.ne_of_gt (l3 (e, excObj C t none .none) (by simp))
  refine kxs_call F3 X N3 S.FB S.q (List.mem_cons_self ..) (.tail qe (.tail soe (.head fun p z => by cases z))) (by show 1 ≤ sizeLine; rw [sizeLine_eq]; decide) fun t' h4 F4 N4 l4 => ?_
  have t4e : t' ≠ e := Nat.ne_of_gt (l4 (e, excObj C t none .none) (by simp))
  show PySem.wpAt _ _ _ (execs [_] _) _ _ _
  refine ks_wpAt_execs_cons (ks_wpAt_Assign_Attr (wpAt_of_wpAny (wpAny_Name (wpAny_loadName_local S.kk S.k2 F4.ns mX (wpAny_Name (wpAny_loadName_local S.kk S.k1 F4.ns mS ?_) S.dbs)) S.dbx)) (S.sw2 L))
  refine set_exc0 S.SF F4 X N4 (by simp) S.hsa S.hover S.htk S.hhd rfl (.tail t4e (.tail qe (.tail soe (.head fun p z => by cases z)))) (by show 1 ≤ 1000; decide) fun dx h5 F5 N5 l5 => ?_
  have dxe : dx ≠ e := Nat.ne_of_gt (l5 (e, excObj C t' none .none) (by simp))
  show PySem.wpAt _ _ _ (execs [] _) _ _ _
  refine wpAt_of_wpAny (wpAny_pure (h h5 t' dx _ F5.keep (N5 (e, excObj C t' (some dx) .none) (by simp)).1 ?_ dxe ?_))
  · exact Nat.le_trans eG (Nat.le_of_lt (l5 (e, excObj C t' none .none) (by simp)))
  · have z := (N5 (dx, _) (List.mem_cons_self ..)).1
    refine ⟨_, _, _, z, rfl, ?_, ?_, ?_⟩
    · intro en hen
      have hen' := Array.mem_toList_iff.mpr hen
      rcases List.mem_cons.mp hen' with rfl | z
      · exact ⟨f, _, rfl⟩
      · cases z
    · exact List.pairwise_singleton ..
    · intro y
      unfold nsFind findBy
      rw [← Array.find?_toList]
      simp only [putL, List.find?_cons]
      by_cases hy : y = f
      · subst hy
        simp [Value.isStr]
      · have hy' : ¬ f = y := fun z => hy z.symm
        have hb : ∀ tk, (Value.str f tk).isStr y = false := fun tk => by
          show (f == y) = false
          exact beq_false_of_ne hy'
        rw [if_neg hy]
        simp only [hb]
        rfl
end
end DL

set_option Elab.async false
set_option linter.all false
set_option maxRecDepth 100000
set_option maxHeartbeats 2000000
/-! DLx3: C(e) as an expression that makes an exception. -/
namespace L2
open PySem PySem.Spec PyProof.Rows
/-- C(e): the exception's dict holds f alone -/
def tMkS (C : Addr) (f : Str) (te : TE) : St → Hp → XK → Prop := fun σ H Q => te σ H fun v H1 => ∀ d, H1 d = none → Q (.ref C) (some d) (upd H1 d (.xd [(f, v)]))
theorem pmk_si {X : Cx} {cn : Str} {C D fI cc cda : Addr} {B newId initId : String} {bmB : List Value} {name qual : Str} {params : Arguments} {scope : Scope} {dV kV doc pm : Value} {an : Option Addr} {ct : Value} {sn x f : Str} {p0 p1 p2 p3 p4 p5 p6 p7 p8 p9 p pos : Pos} {e : Expr} {te : TE}
    (S : DL.SInit X.prog X.K C D fI cc cda B newId initId bmB name qual params scope dV kV doc pm an ct sn x f p0 p1 p2 p3 p4 p5 p6 p7 p8 p9)
    (exC : PySem.W.subIn X.K (.ref C) (.type "BaseException") = some true) (tyC : PySem.W.typeIn X.K (.ref C) = some (.type "type")) (kC : PySem.W.keepIn X.K (.ref C) = true)
    (hr : Room 0 X.A) (hg : Gl X cn) (hm : X.mg cn = some (.ref C)) (hsup : X.mg "super" = none) (ha : PE X e te)
    (hdb : (cn == ("__debug__" : Str)) = false) (he : starEach [e] X.env = [(false, eval e X.env)]) :
    L2H.PMk5 X (.Call (.Name cn p) [e] [] pos) (tMkS C f te) := by
  intro pins s σ H Q I h
  refine wpAny_Call_Name_kw (ld_glob I hg hm ?_ hdb)
  refine PySem.W.callWith_K (h₀ := X.base) I.ok.mod.kin kC ?_ he rfl
  rw [he]
  refine Calls.spliced_cons (thn (ha.run pins s σ H _ I h) fun u s1 ⟨y, H1, I1, r1, q1⟩ => ?_)
  refine Calls.spliced_nil ⟨I1.kIn, ?_⟩
  show wpAny _ _ (call (.ref C) [u]) _ _ _
  obtain ⟨hp, g, dr, tk, os⟩ := s1
  obtain ⟨mb, hb1, hb2⟩ := I1.mod.blt
  refine DL.exc_make I1.kIn S.FB S.hi S.q S.hf fun e t he ht => ?_
  have hge : hp.objs.size ≤ e := by rw [he]; exact Nat.le_succ _
  refine DL.init_run S I1.kIn (I1.mod.glob.keeps I1.bk) hsup (hb1.keeps I1.bk) ((hb2 _ (by decide)).trans (by decide +kernel)) I1.nolimit (by rw [make_depth]; have := hr.dp; omega) he ht fun h' t' dx tk' k hx hd hne hn => ?_
  refine ⟨rfl, ?_⟩
  obtain ⟨G, g1', g2'⟩ := restrict h' fun b => decide (b ≠ e)
  have gk : ∀ b, b ≠ e → G.get? b = h'.get? b := fun b hb => g1' b (decide_eq_true hb)
  have gn : G.get? e = none := g2' e (by simp)
  have hH : H1 dx = none := I1.hok.fresh hd
  have J : Inv X pins σ (upd H1 dx (.xd [(f, y)])) { (⟨hp, g, dr, tk, os⟩ : Shared) with heap := G, toks := tk' } := I1.laid (a := dx) (o := .xd [(f, y)]) (h' := G) (t' := tk') (fun b o z => by
      rw [gk b (Nat.ne_of_lt (Nat.lt_of_lt_of_le (Heap.lt_size z) hge))]
      exact k b o z) hd ⟨_, hn.at fun o z => (gk dx hne).trans z, relO_put (fs := []) r1 fun g => True.intro⟩
  refine ⟨⟨e, _, _, _, _, .ref C, some dx, rfl, J, fun b o z => ?_, gn, hx, ⟨rfl, rfl, fun vs e => by cases e; rfl⟩, rfl, rfl, ?_, rfl, J.bare, raises_own exC tyC, q1 dx hH⟩, fun a oe vs ea hg hd => ?_⟩
  · by_cases hb : b = e
    · subst hb
      have z' : G.get? b = some o := z
      rw [gn] at z'
      cases z'
    · exact (gk b hb).symm.trans z
  · rw [upd_ne (Ne.symm hne)]
    exact I1.hok.fresh hge
  · cases ea
    have hg : h'.get? e = some oe := hg
    rw [hx] at hg
    cases hg
    cases hd
    show (4 : Nat) < 6
    decide
theorem pmk_n {X : Cx} {e : Expr} {t : St → Hp → XK → Prop} (h : L2N.PMk X e t) : PMk X e t := fun pins s σ H Q I q => thn (h pins s σ H Q I q) fun u s1 hu => by
  obtain ⟨a, oe, vs, sI, H', cls, d, e, J, k, hne, ha, hz, r⟩ := hu
  exact ⟨a, oe, vs, sI, H', cls, d, e, J, k, hne, ha, hz.zc, r⟩
end L2

set_option Elab.async false
set_option linter.all false
set_option maxRecDepth 100000
/-! DL3: the interpreter on expressions. -/
namespace DL
open PySem L2

/-! ### truth -/
def truD : D → Option Bool
  | .non => some false
  | .bl b => some b
  | .int i => some (i != 0)
  | .lst xs => some (!xs.isEmpty)
  | .tup xs => some (!xs.isEmpty)
  | _ => none

/-! ### own ==, in, [] -/
def dBk (k : Bool → Prop) : D → Prop
  | .bl b => k b
  | _ => False
def declK : D → Option TyN
  | .non => some (.inl "NoneType")
  | .str _ => some (.inl "str")
  | .tup _ => some (.inl "tuple")
  | _ => none
def dInO (sm : Sm) (xk : DX → Prop) (x : D) : List D → (Bool → Prop) → Prop
  | [], k => k false
  | d :: ds, k => sm [x, d] (dBk fun b => if b = true then k true else dInO sm xk x ds k) xk
def allDecl (T : Tab) (c : Str) : List D → Bool
  | [] => true
  | d :: ds => (match declK d with | some t => T.fx.contains (.eqc c t) | none => false) && allDecl T c ds
section
variable (T : Tab) (xk : DX → Prop)
def dEqL (c : Str) (x : D) (rb : R) (k : Bool → Prop) : Prop := match rb with
  | .val y => (match T.ms.lookup (c, ("__eq__" : Str)), tyN y with
    | some sm, some t => T.fx.contains (.eqc c t) = true ∧ sm [x, y] (dBk k) xk
    | _, _ => False)
  | _ => False
def dEqR (c : Str) (y : D) (ra : R) (k : Bool → Prop) : Prop := match ra with
  | .val x => (match T.ms.lookup (c, ("__eq__" : Str)), declK x with
    | some sm, some t => T.fx.contains (.eqc c t) = true ∧ sm [y, x] (dBk k) xk
    | _, _ => False)
  | _ => False
def dInL (c : Str) (x : D) (rb : R) (k : Bool → Prop) : Prop := match rb with
  | .val (.tup ds) => (match T.ms.lookup (c, ("__eq__" : Str)) with
    | some sm => allDecl T c ds = true ∧ dInO sm xk x ds k
    | none => False)
  | _ => False
def dCmpX (op : CmpOp) (ra rb : R) (x y : D) (k : Bool → Prop) : Prop := match op with
  | .Eq => (match ra with
    | .val (.obj c ns xs) => dEqL T xk c (.obj c ns xs) rb k
    | ra => (match rb with
      | .val (.obj c ns xs) => dEqR T xk c (.obj c ns xs) ra k
      | _ => dCmp .Eq x y k))
  | .NotEq => (match ra with
    | .val (.obj c ns xs) => dEqL T xk c (.obj c ns xs) rb fun b => k (!b)
    | _ => dCmp .NotEq x y k)
  | .In => (match ra with
    | .val (.obj c ns xs) => dInL T xk c (.obj c ns xs) rb k
    | _ => dCmp .In x y k)
  | op => dCmp op x y k
def dIxX (ro ri : R) (x y : D) (k : R → Prop) : Prop := match ro with
  | .val (.obj c ns xs) => (match ri, T.ms.lookup (c, ("__getitem__" : Str)) with
    | .val i, some sm => sm [.obj c ns xs, i] (fun d => k (.val d)) xk
    | _, _ => False)
  | _ => dIx x y k
end
section
variable (f : Expr → Env' → KR → Prop) (t : Expr → Env' → (Bool → Env' → Prop) → Prop)
def two (ρ : Env') (ra rb : R) (k : D → D → Prop) : Prop := match look ρ ra, look ρ rb with
  | some x, some y => k x y
  | _, _ => False
def dCompare (T : Tab) (xk : DX → Prop) (a : Expr) (ops : List CmpOp) (cs : List Expr) (ρ : Env') (k : Bool → Env' → Prop) : Prop := match ops, cs with
  | [op], [b] => noSet b = true ∧ f a ρ fun ra ρ1 => f b ρ1 fun rb ρ2 => two ρ2 ra rb fun x y => dCmpX T xk op ra rb x y fun r => k r ρ2
  | [op, op'], [b, c] => noSet c = true ∧ f a ρ fun ra ρ1 => f b ρ1 fun rb ρ2 => two ρ2 ra rb fun x y => dCmp op x y fun r =>
      if r = true then f c ρ2 fun rc ρ3 => two ρ3 rb rc fun y z => dCmp op' y z fun r => k r ρ3 else k false ρ2
  | _, _ => False
/-- and, or as values: all but the last bools -/
def dBoolV (op : BoolOp) : List Expr → Env' → KR → Prop
  | [], _, _ => False
  | [e], ρ, k => f e ρ k
  | e :: es, ρ, k => f e ρ fun r ρ1 => match look ρ1 r with
    | some (.bl b) => (match op with
      | .And => if b = true then dBoolV op es ρ1 k else k (.val (.bl false)) ρ1
      | .Or => if b = true then k (.val (.bl true)) ρ1 else dBoolV op es ρ1 k)
    | _ => False
def dBoolT (op : BoolOp) : List Expr → Env' → (Bool → Env' → Prop) → Prop
  | [], _, _ => False
  | [e], ρ, k => t e ρ k
  | e :: es, ρ, k => t e ρ fun b ρ1 => match op with
    | .And => if b = true then dBoolT op es ρ1 k else k false ρ1
    | .Or => if b = true then k true ρ1 else dBoolT op es ρ1 k
def dPart (o : Option Expr) (ρ : Env') (k : Option Int → Env' → Prop) : Prop := match o with
  | none => k none ρ
  | some e => f e ρ fun r ρ1 => match look ρ1 r with
    | some (.int i) => k (some i) ρ1
    | _ => False
def dSub (T : Tab) (xk : DX → Prop) (o i : Expr) (ρ : Env') (k : KR) : Prop := match i with
  | .Slice lo hi none _ => f o ρ fun ro ρ1 => dPart f lo ρ1 fun l ρ2 => dPart f hi ρ2 fun h ρ3 => match look ρ3 ro with
    | some d => dSl d l h fun r => k r ρ3
    | none => False
  | .Slice none none st _ => revStep st = true ∧ f o ρ fun ro ρ1 => match look ρ1 ro with
    | some d => dRev d fun r => k r ρ1
    | none => False
  | .Slice .. => False
  | i => f o ρ fun ro ρ1 => f i ρ1 fun ri ρ2 => two ρ2 ro ri fun x y => dIxX T xk ro ri x y fun r => k r ρ2
end

/-- the parts of an f-text -/
def dJs (f : Expr → Env' → KR → Prop) : List Expr → Str → Env' → (Str → Env' → Prop) → Prop
  | [], acc, ρ, k => k acc ρ
  | e :: es, acc, ρ, k => f e ρ fun r ρ1 => match r with
    | .val (.str y) => (acc ++ y).length ≤ sizeLine ∧ dJs f es (acc ++ y) ρ1 k
    | _ => False
def dJoined (f : Expr → Env' → KR → Prop) (vs : List Expr) (ρ : Env') (k : KR) : Prop := match vs with
  | v1 :: v2 :: rest => dJs f (v1 :: v2 :: rest) Str.empty ρ fun out ρ1 => k (.val (.str out)) ρ1
  | _ => False
def fmtD (d : D) (k : Str → Prop) : Prop := match d with
  | .str y => y.length ≤ sizeLine ∧ k y
  | .int i => i.natAbs.log2 < 1920 ∧ k (toString i : String)
  | _ => False
/-! ### targets -/
def setFr (ρ : Env') (i : Nat) (d : D) : Env' := ρ.set i (some (.fr d))
/-- a target that is a local name, or a tuple of such -/
def dTgN (T : Tab) : Expr → D → Env' → (Env' → Prop) → Prop
  | .Name x _, d, ρ, k => (T.nm.lookup x = some .local ∨ (T.nm.lookup x = some .cell ∧ T.fn x = true)) ∧ (match slotOf T.N x with
    | some i => k (setFr ρ i d)
    | none => False)
  | _, _, _, _ => False
def dTgs (g : Expr → D → Env' → (Env' → Prop) → Prop) : List Expr → List D → Env' → (Env' → Prop) → Prop
  | [], [], ρ, k => k ρ
  | e :: es, d :: ds, ρ, k => isStar e = false ∧ g e d ρ fun ρ1 => dTgs g es ds ρ1 k
  | _, _, _, _ => False
def dTg1 (T : Tab) (tg : Expr) (d : D) (ρ : Env') (k : Env' → Prop) : Prop := match tg with
  | .Tuple es _ _ => (match d with
    | .tup ds => dTgs (dTgN T) es ds ρ k
    | _ => False)
  | e => dTgN T e d ρ k
def dTg (T : Tab) (tg : Expr) (d : D) (ρ : Env') (k : Env' → Prop) : Prop := match tg with
  | .Tuple es _ _ => (match d with
    | .tup ds => dTgs (dTg1 T) es ds ρ k
    | _ => False)
  | e => dTgN T e d ρ k

/-! ### what is walked -/
def itemsOf : D → Option (List D)
  | .lst xs => some xs
  | .tup xs => some xs
  | .str z => some (z.cps.toList.map fun c => .str ⟨#[c]⟩)
  | _ => none
def upTo (lo : Int) (n : Nat) : List D := (List.range n).map fun (i : Nat) => D.int (lo + i)
def numbered : Nat → List D → List D
  | _, [] => []
  | i, d :: ds => .tup [.int i, d] :: numbered (i + 1) ds
inductive IK where
  | range | enum | zip | other
def iterKind (T : Tab) (e : Expr) : IK := match e with
  | .Call (.Name x _) _ _ _ => (match T.nm.lookup x, T.g.lookup x with
    | some .globalImplicit, some .blt => if x = ("range" : Str) then .range else if x = ("enumerate" : Str) then .enum else if x = ("zip" : Str) then .zip else .other
    | _, _ => .other)
  | _ => .other
def callArgs : Expr → List Expr
  | .Call _ args _ _ => args
  | _ => []
def isTup : Expr → Bool
  | .Tuple .. => true
  | _ => false
def iterOk (tg : Expr) : Expr → Bool
  | .Call _ args [] _ => !args.any isStar && decide (args.length = 1 ∨ args.length = 2)
  | _ => false
def tgSlot (N : List Str) : Expr → Option Nat
  | .Name x _ => slotOf N x
  | _ => none
def tgSlotN (N : List Str) (e : Expr) : List Nat := (tgSlot N e).toList
def tgSlots1 (N : List Str) : Expr → List Nat
  | .Tuple es _ _ => es.flatMap (tgSlotN N)
  | e => tgSlotN N e
def tgSlots (N : List Str) : Expr → List Nat
  | .Tuple es _ _ => es.flatMap (tgSlots1 N)
  | e => tgSlotN N e
section
variable (f : Expr → Env' → KR → Prop)
def dIter (T : Tab) (tg e : Expr) (ρ : Env') (k : List D → Env' → Prop) : Prop := match iterKind T e with
  | .range => iterOk tg e = true ∧ (match callArgs e with
    | [a] => f a ρ fun r ρ1 => (match look ρ1 r with
      | some (.int j) => (-(2 ^ 62) ≤ j ∧ j < 2 ^ 62) ∧ k (upTo 0 j.toNat) ρ1
      | _ => False)
    | [a, b] => f a ρ fun ra ρ1 => f b ρ1 fun rb ρ2 => two ρ2 ra rb fun x y => (match x, y with
      | .int i, .int j => (-(2 ^ 62) ≤ i ∧ i < 2 ^ 62 ∧ -(2 ^ 62) ≤ j ∧ j < 2 ^ 62) ∧ k (upTo i (j - i).toNat) ρ2
      | _, _ => False)
    | _ => False)
  | .enum => (iterOk tg e = true ∧ isTup tg = true) ∧ (match callArgs e with
    | [a] => f a ρ (frK fun d ρ1 => match d with
      | .lst xs => k (numbered 0 xs) ρ1
      | .tup xs => k (numbered 0 xs) ρ1
      | _ => False)
    | _ => False)
  | .zip => (iterOk tg e = true ∧ isTup tg = true) ∧ (match callArgs e with
    | [a, b] => f a ρ (frK fun x ρ1 => f b ρ1 (frK fun y ρ2 => match x, y with
      | .lst xs, .lst ys => k (List.zipWith (fun x y => D.tup [x, y]) xs ys) ρ2
      | .tup xs, .tup ys => k (List.zipWith (fun x y => D.tup [x, y]) xs ys) ρ2
      | _, _ => False))
    | _ => False)
  | .other => f e ρ (frK fun d ρ1 => match itemsOf d with
    | some xs => k xs ρ1
    | none => False)
/-- a dict display with written texts as keys -/
def dispKeys : List (Option Expr) → Option (List Str)
  | [] => some []
  | some (.Constant (.str x) _ _) :: ks => (dispKeys ks).map (x :: ·)
  | _ => none
def strKey (x : Str) : Option Key := some (.inr x)
/-- a comprehension over a list of one's own: the list is out of sight meanwhile -/
def hideOk (scope : Scope) : Expr → Bool
  | .Name x _ => (scope.names.lookup x).isNone
  | _ => false
def dHide (k : List D → Env' → (Env' → Env') → Prop) : KR := fun r ρ => match r with
  | .slot i => (match ρ[i]? with
    | some (some (.ow (.lst xs))) => k xs (ρ.set i none) fun ρ' => ρ'.set i (some (.ow (.lst xs)))
    | _ => False)
  | .val d => (match itemsOf d with
    | some xs => k xs ρ id
    | none => False)
  | .new _ => False
def dIterC (T : Tab) (scope : Scope) (tg e : Expr) (ρ : Env') (k : List D → Env' → (Env' → Env') → Prop) : Prop := match hideOk scope e with
  | true => f e ρ (dHide k)
  | false => dIter f T tg e ρ fun ds ρ1 => k ds ρ1 id
/-! ### comprehensions -/
def wipeE (ρ : Env') : List Nat → Env'
  | [] => ρ
  | v :: vs => (wipeE ρ vs).set v none
def backE (ρ ρ' : Env') : List Nat → Env'
  | [] => ρ'
  | v :: vs => (backE ρ ρ' vs).set v (match ρ[v]? with
    | some (some (.fr d)) => some (.fr d)
    | _ => none)
def dTests (t : Expr → Env' → (Bool → Env' → Prop) → Prop) : List Expr → Env' → (Bool → Env' → Prop) → Prop
  | [], ρ, k => k true ρ
  | [c], ρ, k => t c ρ k
  | _, _, _ => False
def dCompL (step : D → Env' → (Option D → Env' → Prop) → Prop) : List D → Env' → List D → (List D → Env' → Prop) → Prop
  | [], ρ, acc, k => k acc ρ
  | d :: ds, ρ, acc, k => step d ρ fun o ρ1 => (match o with
    | some y => acc.length < sizeLine ∧ dCompL step ds ρ1 (acc ++ [y]) k
    | none => dCompL step ds ρ1 acc k)
/-- a dict comprehension's turns -/
def dCompD (step : D → Env' → (Option (Key × D) → Env' → Prop) → Prop) : List D → Env' → List (Option Key) → List D → (List (Option Key) → List D → Env' → Prop) → Prop
  | [], ρ, ks, xs, k => k ks xs ρ
  | d :: ds, ρ, ks, xs, k => step d ρ fun o ρ1 => (match o with
    | some (key, y) => ks.length < sizeLine ∧ dCompD step ds ρ1 (putG (some key) y ks xs).1 (putG (some key) y ks xs).2 k
    | none => dCompD step ds ρ1 ks xs k)
def dKey (r : R) (k : Key → Prop) : Prop := match r with
  | .val d => (match keyK d with
    | some key => k key
    | none => False)
  | _ => False
end
/-- the block's names that are its own, with their slots -/
def ownOf (N : List Str) (scope : Scope) : List (Str × Nat) := scope.names.filterMap fun y => match y.2 with
  | .local => (slotOf N y.1).map fun i => (y.1, i)
  | .cell => (slotOf N y.1).map fun i => (y.1, i)
  | _ => none
/-- the table within the block -/
def Tab.blk (T : Tab) (scope : Scope) : Tab := { T with nm := (relS scope ⟨.function, T.nm, false, false, []⟩).names, fn := fun x => scope.names.lookup x == some .cell, stm := false }

/-- a class that a name holds is called -/
def clsAt (T : Tab) (x : Str) (ρ : Env') : Option Sm := match slotOf T.N x with
  | some i => (match ρ[i]? with
    | some (some (.fr (.cl c))) => (match T.g.lookup c with
      | some (.cls c' sm) => if c' = c then some sm else none
      | _ => none)
    | _ => none)
  | none => none
def dClsV (f : Expr → Env' → KR → Prop) (T : Tab) (xk : DX → Prop) (x : Str) (args : List Expr) (ρ : Env') (k : KR) : Prop := match args with
  | [] => False
  | a :: as => (match clsAt T x ρ with
    | some sm => dVs f (a :: as) ρ fun ds ρ1 => sm ds (fun d => k (.val d) ρ1) xk
    | none => False)
/-- a class's method -/
def dClM (f : Expr → Env' → KR → Prop) (T : Tab) (xk : DX → Prop) (c m : Str) (args : List Expr) (ρ : Env') (k : KR) : Prop := match args with
  | [] => False
  | a :: as => (match T.cm.lookup (c, m) with
    | some sm => dVs f (a :: as) ρ fun ds ρ2 => sm (.cl c :: ds) (fun d => k (.val d) ρ2) xk
    | none => False)
mutual
def dE : Nat → Tab → (DX → Prop) → Expr → Env' → KR → Prop
  | 0, _, _, _, _, _ => False
  | n + 1, T, xk, e, ρ, k => match e with
    | .Constant c _ _ => dConst c ρ k
    | .Name x _ => dName T x ρ k
    | .BinOp a op b _ => dE n T xk a ρ fun ra ρ1 => dE n T xk b ρ1 fun rb ρ2 => two ρ2 ra rb fun x y => dOp op x y fun r => k r ρ2
    | .Compare a ops cs _ => dCompare (dE n T xk) T xk a ops cs ρ fun b ρ1 => k (.val (.bl b)) ρ1
    | .BoolOp op vs _ => dBoolV (dE n T xk) op vs ρ k
    | .UnaryOp op a _ => dE n T xk a ρ fun r ρ1 => (match op, look ρ1 r with
      | .Not, some (.bl b) => k (.val (.bl (!b))) ρ1
      | .USub, some (.int i) => k (.val (.int (-i))) ρ1
      | _, _ => False)
    | .IfExp c a b _ => dT n T xk c ρ fun t ρ1 => if t = true then dE n T xk a ρ1 k else dE n T xk b ρ1 k
    | .List es _ => dVs (dE n T xk) es ρ fun ds ρ1 => ds.length ≤ sizeLine ∧ k (.new (.lst ds)) ρ1
    | .Tuple es _ _ => dVs (dE n T xk) es ρ fun ds ρ1 => ds.length ≤ sizeLine ∧ k (.val (.tup ds)) ρ1
    | .Dict [] [] _ => k (.new (.dic [] [])) ρ
    | .Dict ks vs _ => (match dispKeys ks with
      | some xs => (xs.Nodup ∧ xs.length = vs.length ∧ xs.length ≤ 15 ∧ xs ≠ []) ∧ dVs (dE n T xk) vs ρ fun ds ρ1 => k (.new (.dic (xs.map strKey) ds)) ρ1
      | none => False)
    | .Attribute o m _ => plainBase o = true ∧ dE n T xk o ρ fun r ρ1 => (match look ρ1 r with
      | some (.obj c ns ds) => (match (ns.zip ds).lookup m with
        | some d => T.fls.contains (c, m) = true ∧ k (.val d) ρ1
        | none => False)
      | _ => False)
    | .Subscript o i _ => dSub (dE n T xk) T xk o i ρ k
    | .JoinedStr vs _ => dJoined (dE n T xk) vs ρ k
    | .FormattedValue e cv fm _ => (cv = -1 ∧ fm = none) ∧ dE n T xk e ρ fun r ρ1 => (match look ρ1 r with
      | some d => fmtD d fun z => k (.val (.str z)) ρ1
      | none => False)
    | .Call g args kws pos => (kws = [] ∧ args.any isStar = false) ∧ (match g with
      | .Name x _ => badName x = false ∧ (match T.nm.lookup x with
       | some .local => dClsV (dE n T xk) T xk x args ρ k
       | some .globalImplicit => (match T.g.lookup x with
        | some (.fn sm) => (match T.fx.contains (.lend x) with
          | true => dLend (dE n T xk) args ρ k fun ds kd => sm ds kd xk
          | false => dVs (dE n T xk) args ρ fun ds ρ1 => sm ds (fun d => k (.val d) ρ1) xk)
        | some (.cls _ sm) => (match T.fx.contains (.lend x) with
          | true => dLend (dE n T xk) args ρ k fun ds kd => sm ds kd xk
          | false => dVs (dE n T xk) args ρ fun ds ρ1 => sm ds (fun d => k (.val d) ρ1) xk)
        | some .blt => (match bltIds.lookup x with
          | some id => dRs (dE n T xk) args ρ fun rs ρ1 => dBltX T xk id rs ρ1 fun r => k r ρ1
          | none => False)
        | some (.bty ty) => btys.contains ty = true ∧ dRs (dE n T xk) args ρ fun rs ρ1 => dBtyX T xk ty rs ρ1 fun r => k r ρ1
        | _ => False)
       | _ => False)
      | .Attribute o m apos => methOk o apos pos args = true ∧ (match methKind m with
        | .own => dE n T xk o ρ (frK fun d ρ1 => (match d with
          | .obj c ns xs => (match T.ms.lookup (c, m) with
            | some sm => (ns.zip xs).lookup m = none ∧ dVs (dE n T xk) args ρ1 fun ds ρ2 => sm (.obj c ns xs :: ds) (fun d => k (.val d) ρ2) xk
            | none => False)
          | .cl c => dClM (dE n T xk) T xk c m args ρ1 k
          | _ => False))
        | .list => dE n T xk o ρ fun r ρ1 => (match look ρ1 r with
          | some (.lst _) => dVs (dE n T xk) args ρ1 fun ds ρ2 => dListM m r ds ρ2 k
          | _ => False)
        | .str => dE n T xk o ρ fun r ρ1 => (match look ρ1 r with
          | some (.str x) => dRs (dE n T xk) args ρ1 fun rs ρ2 => (match looks ρ2 rs with
            | some ds => dStrM m x ds fun r => k r ρ2
            | none => False)
          | _ => False))
      | _ => False)
    | .ListComp elt gens scope _ => (match gens with
      | [⟨tg, it, ifs, 0⟩] => (blkC T.N ⟨.function, T.nm, false, false, []⟩ scope (ownOf T.N scope) = true ∧ (tgSlots T.N tg).all (fun i => ((ownOf T.N scope).map (·.2)).contains i) = true) ∧
        dIterC (dE n T xk) T scope tg it ρ fun ds ρ1 u => dCompL (fun d ρ k => dTg (T.blk scope) tg d ρ fun ρ2 => dTests (dT n (T.blk scope) fun _ => False) ifs ρ2 fun b ρ3 =>
            if b = true then dE n (T.blk scope) (fun _ => False) elt ρ3 (frK fun y ρ4 => k (some y) (wipeE ρ4 ((ownOf T.N scope).map (·.2)))) else k none (wipeE ρ3 ((ownOf T.N scope).map (·.2)))) ds (wipeE ρ1 ((ownOf T.N scope).map (·.2))) [] fun acc ρ2 => k (.new (.lst acc)) (u (backE ρ1 ρ2 ((ownOf T.N scope).map (·.2))))
      | _ => False)
    | .DictComp kx vx gens scope _ => (match gens with
      | [⟨tg, it, ifs, 0⟩] => (blkC T.N ⟨.function, T.nm, false, false, []⟩ scope (ownOf T.N scope) = true ∧ (tgSlots T.N tg).all (fun i => ((ownOf T.N scope).map (·.2)).contains i) = true) ∧
        dIterC (dE n T xk) T scope tg it ρ fun ds ρ1 u => dCompD (fun d ρ k => dTg (T.blk scope) tg d ρ fun ρ2 => dTests (dT n (T.blk scope) fun _ => False) ifs ρ2 fun b ρ3 =>
            if b = true then dE n (T.blk scope) (fun _ => False) kx ρ3 (fun rk ρ4 => dKey rk fun key => dE n (T.blk scope) (fun _ => False) vx ρ4 (frK fun y ρ5 => k (some (key, y)) (wipeE ρ5 ((ownOf T.N scope).map (·.2))))) else k none (wipeE ρ3 ((ownOf T.N scope).map (·.2)))) ds (wipeE ρ1 ((ownOf T.N scope).map (·.2))) [] [] fun ks acc ρ2 => k (.new (.dic ks acc)) (u (backE ρ1 ρ2 ((ownOf T.N scope).map (·.2))))
      | _ => False)
    | _ => False
def dT : Nat → Tab → (DX → Prop) → Expr → Env' → (Bool → Env' → Prop) → Prop
  | 0, _, _, _, _, _ => False
  | n + 1, T, xk, e, ρ, k => match e with
    | .BoolOp op vs _ => dBoolT (dT n T xk) op vs ρ k
    | .UnaryOp .Not a _ => dT n T xk a ρ fun b ρ1 => k (!b) ρ1
    | .Compare a ops cs _ => dCompare (dE n T xk) T xk a ops cs ρ k
    | .IfExp .. => False
    | e => dE n T xk e ρ fun r ρ1 => (match look ρ1 r with
      | some d => (match truD d with
        | some b => k b ρ1
        | none => False)
      | none => False)
end
end DL

set_option Elab.async false
set_option linter.all false
set_option maxRecDepth 100000
set_option maxHeartbeats 1000000
/-! DL4: the readings, and what the rules ask. -/
namespace DL
open PySem L2

theorem PE.imp {X : Cx} {e : Expr} {t t' : TE} (h : PE X e t) (i : ∀ σ H Q, t' σ H Q → t σ H Q) : PE X e t' := ⟨fun pins s σ H Q I q => h.run pins s σ H Q I (i σ H Q q)⟩
theorem PT.imp {X : Cx} {e : Expr} {t t' : TT} (h : PT X e t) (i : ∀ σ H Q, t' σ H Q → t σ H Q) : PT X e t' := ⟨fun pins s σ H Q I q => h.run pins s σ H Q I (i σ H Q q)⟩
theorem PW.imp {X : Cx} {e : Expr} {t t' : TT} (h : PW X e t) (i : ∀ σ H Q, t' σ H Q → t σ H Q) : PW X e t' := ⟨fun wh pins s σ H Q I q => h.run wh pins s σ H Q I (i σ H Q q)⟩
theorem PA.imp {X : Cx} {es : List Expr} {t t' : TA} (h : PA X es t) (i : ∀ σ H Q, t' σ H Q → t σ H Q) : PA X es t' := ⟨fun pos pins s σ H Q I q => h.run pos pins s σ H Q I (i σ H Q q)⟩
theorem PS.imp {X : Cx} {st : Stmt} {t t' : TS} (h : PS X st t) (i : ∀ D σ H, t' D σ H → t D σ H) : PS X st t' := ⟨fun pins s σ H D I q => h.run pins s σ H D I (i D σ H q)⟩
theorem PSs.imp {X : Cx} {st : List Stmt} {t t' : TS} (h : PSs X st t) (i : ∀ D σ H, t' D σ H → t D σ H) : PSs X st t' := ⟨fun pins s σ H D I q => h.run pins s σ H D I (i D σ H q)⟩
theorem PG.imp {X : Cx} {e : Expr} {t t' : TG} (h : PG X e t) (i : ∀ v σ H Q, t' v σ H Q → t v σ H Q) : PG X e t' := ⟨fun pins s σ H v u Q I r q => h.run pins s σ H v u Q I r (i v σ H Q q)⟩
theorem PE.no {X : Cx} {e : Expr} {t : TE} (i : ∀ σ H Q, t σ H Q → False) : PE X e t := ⟨fun _ _ σ H Q _ q => (i σ H Q q).elim⟩
theorem PT.no {X : Cx} {e : Expr} {t : TT} (i : ∀ σ H Q, t σ H Q → False) : PT X e t := ⟨fun _ _ σ H Q _ q => (i σ H Q q).elim⟩
theorem PA.no {X : Cx} {es : List Expr} {t : TA} (i : ∀ σ H Q, t σ H Q → False) : PA X es t := ⟨fun _ _ _ σ H Q _ q => (i σ H Q q).elim⟩
/-- the reading may be chosen at the state -/
theorem PE.ex {X : Cx} {e : Expr} {ι : Type} {t : ι → TE} (h : ∀ i, PE X e (t i)) : PE X e (fun σ H Q => ∃ i, t i σ H Q) := ⟨fun pins s σ H Q I ⟨i, q⟩ => (h i).run pins s σ H Q I q⟩
theorem PE.and {X : Cx} {e : Expr} {p : Prop} {t : TE} (h : p → PE X e t) : PE X e (fun σ H Q => p ∧ t σ H Q) := ⟨fun pins s σ H Q I ⟨i, q⟩ => (h i).run pins s σ H Q I q⟩

theorem star_cons {e : Expr} (h : isStar e = false) (es : List Expr) (env : Env) : starEach (e :: es) env = (false, eval e env) :: starEach es env := by
  cases e <;> first | rfl | cases h
theorem star_any : ∀ {es : List Expr} (h : es.any isStar = false) (pos : Pos) (env : Env), (backTo pos (starEach es env)).any (·.1) = false
  | [], _, _, _ => rfl
  | e :: es, h, pos, env => by
    rw [List.any_cons, Bool.or_eq_false_iff] at h
    rw [star_cons h.1]
    exact star_any h.2 pos env

section
variable (κ : KB) (B : Hp) (f : Expr → Env' → KR → Prop) (t : Expr → Env' → (Bool → Env' → Prop) → Prop)
/-- an expression -/
def tE (e : Expr) : TE := fun σ H Q => ∃ (F : Hp) (ρ : Env') (k : KR), EnvOk κ B F H σ ρ ∧ f e ρ k ∧ ∀ r ρ' v F' H', k r ρ' → Post κ B F H σ ρ F' H' ρ' → ROk κ B H F' H' σ ρ' r v → Q v H'
def tTe (e : Expr) : TT := fun σ H Q => ∃ (F : Hp) (ρ : Env') (k : Bool → Env' → Prop), EnvOk κ B F H σ ρ ∧ t e ρ k ∧ ∀ b ρ' F' H', k b ρ' → Post κ B F H σ ρ F' H' ρ' → Q b H'
/-- arguments: results, frozen values -/
inductive RsW (H0 F H : Hp) (σ : L2.St) (ρ : Env') : List R → List V → Prop
  | nil : RsW H0 F H σ ρ [] []
  | cons {r v rs vs} (h : ∀ d, look ρ r = some d → ROk κ B H0 F H σ ρ r v) (t : RsW H0 F H σ ρ rs vs) : RsW H0 F H σ ρ (r :: rs) (v :: vs)
def tRs (es : List Expr) : TA := fun σ H Q => ∃ (F : Hp) (ρ : Env') (k : KRs), EnvOk κ B F H σ ρ ∧ dRs f es ρ k ∧ ∀ rs ρ' vs F' H', k rs ρ' → Post κ B F H σ ρ F' H' ρ' → RsW κ B H F' H' σ ρ' rs vs → Q vs H'
def tVs (es : List Expr) : TA := fun σ H Q => ∃ (F : Hp) (ρ : Env') (k : KDs), EnvOk κ B F H σ ρ ∧ dVs f es ρ k ∧ ∀ ds ρ' vs F' H', k ds ρ' → Post κ B F H σ ρ F' H' ρ' → RepL κ F' ds vs → Q vs H'
end
section
variable {κ : KB} {B F H H0 F1 H1 : Hp} {σ : L2.St} {ρ ρ1 : Env'}
theorem RsW.back {F0 : Hp} {ρ0 : Env'} {rs : List R} {vs : List V} (h : RsW κ B H1 F H σ ρ rs vs) (p : Post κ B F0 H0 σ ρ0 F1 H1 ρ1) : RsW κ B H0 F H σ ρ rs vs := by
  induction h with
  | nil => exact .nil
  | cons h t ih => exact .cons (fun d e => (h d e).back p) ih
/-- what can be read of results -/
inductive RdL (κ : KB) (F H : Hp) : List D → List V → Prop
  | nil : RdL κ F H [] []
  | cons {d v ds vs} (h : RdAt κ F H d v) (t : RdL κ F H ds vs) : RdL κ F H (d :: ds) (v :: vs)
theorem RsW.rd {rs : List R} {vs : List V} {ds : List D} (h : RsW κ B H0 F H σ ρ rs vs) (e : EnvOk κ B F H σ ρ) (hl : looks ρ rs = some ds) : RdL κ F H ds vs := by
  induction h generalizing ds with
  | nil => cases hl; exact .nil
  | @cons r v rs vs h t ih =>
    unfold looks at hl
    cases e1 : look ρ r with
    | none => rw [e1] at hl; cases hl
    | some d =>
      cases e2 : looks ρ rs with
      | none => rw [e1, e2] at hl; cases hl
      | some ds' =>
        rw [e1, e2] at hl
        cases hl
        exact .cons ((h d e1).rd e e1) (ih e2)
theorem two_inv {ra rb : R} {k : D → D → Prop} (h : two ρ ra rb k) : ∃ x y, look ρ ra = some x ∧ look ρ rb = some y ∧ k x y := by
  unfold two at h
  cases e1 : look ρ ra with
  | none => rw [e1] at h; exact h.elim
  | some x =>
    cases e2 : look ρ rb with
    | none => rw [e1, e2] at h; exact h.elim
    | some y => rw [e1, e2] at h; exact ⟨x, y, rfl, rfl, h⟩
theorem frK_inv {r : R} {k : KD} (h : frK k r ρ) : ∃ d ρ', frz ρ r = some (d, ρ') ∧ k d ρ' := by
  unfold frK at h
  cases e : frz ρ r with
  | none => rw [e] at h; exact h.elim
  | some p => obtain ⟨d, ρ'⟩ := p; rw [e] at h; exact ⟨d, ρ', rfl, h⟩
end

section
variable {κ : KB} {B : Hp} {f : Expr → Env' → KR → Prop} {t : Expr → Env' → (Bool → Env' → Prop) → Prop} {X : Cx}
theorem pa_R (hf : ∀ e, PE X e (tE κ B f e)) (hs : ∀ e ρ k, f e ρ k → isStar e = false) : ∀ es, PA X es (tRs κ B f es)
  | [] => PA.imp pa_nil fun σ H Q ⟨F, ρ, k, e, hk, hq⟩ => hq [] ρ [] F H hk (.refl e) .nil
  | e :: es => by
    cases hst : isStar e with
    | true => exact PA.no fun σ H Q ⟨F, ρ, k, _, hk, _⟩ => by rw [hs e ρ _ hk] at hst; cases hst
    | false =>
      refine PA.imp (pa_cons (hf e) (pa_R hf hs es) (star_cons hst es X.env)) fun σ H Q ⟨F, ρ, k, en, hk, hq⟩ => ?_
      refine ⟨F, ρ, _, en, hk, fun r ρ1 v F1 H1 h1 p1 o1 => ⟨F1, ρ1, _, p1.env, h1, fun rs ρ2 vs F2 H2 h2 p2 o2 => ?_⟩⟩
      exact hq (r :: rs) ρ2 (v :: vs) F2 H2 h2 (p1.trans p2) (.cons (fun d e => o1.post p2 e) (o2.back p1))
theorem pa_V (hf : ∀ e, PE X e (tE κ B f e)) (hs : ∀ e ρ k, f e ρ k → isStar e = false) : ∀ es, PA X es (tVs κ B f es)
  | [] => PA.imp pa_nil fun σ H Q ⟨F, ρ, k, e, hk, hq⟩ => hq [] ρ [] F H hk (.refl e) .nil
  | e :: es => by
    cases hst : isStar e with
    | true => exact PA.no fun σ H Q ⟨F, ρ, k, _, hk, _⟩ => by rw [hs e ρ _ hk] at hst; cases hst
    | false =>
      refine PA.imp (pa_cons (hf e) (pa_V hf hs es) (star_cons hst es X.env)) fun σ H Q ⟨F, ρ, k, en, hk, hq⟩ => ?_
      refine ⟨F, ρ, _, en, hk, fun r ρ1 v F1 H1 h1 p1 o1 => ?_⟩
      obtain ⟨d, ρ1', hz, h1⟩ := frK_inv h1
      obtain ⟨F1', p1', rp⟩ := o1.frz p1 hz
      exact ⟨F1', ρ1', _, p1'.env, h1, fun ds ρ2 vs F2 H2 h2 p2 o2 => hq (d :: ds) ρ2 (v :: vs) F2 H2 h2 (p1'.trans p2) (.cons (rp.mono p2.exF) o2)⟩

/-! ### results -/
/-- what is wanted of a result, behind an operation that began at F0, H0, ρ0 -/
def Wants (κ : KB) (B F0 H0 : Hp) (σ : L2.St) (ρ0 ρ : Env') (kr : R → Prop) (Q : VK) : Prop := ∀ r v F' H', kr r → Post κ B F0 H0 σ ρ0 F' H' ρ → ROk κ B H0 F' H' σ ρ r v → Q v H'
variable {F0 H0 F H : Hp} {σ : L2.St} {ρ0 ρ : Env'} {kr : R → Prop} {Q : VK}
theorem EnvOk.noRoot (e : EnvOk κ B F H σ ρ) {q : Addr} (h : H q = none) : ¬ Root σ ρ q := fun ⟨i, d, a, b⟩ => by
  obtain ⟨q', c1, c2, c3, c4⟩ := e.ow i d a
  rw [b] at c1; cases c1
  obtain ⟨o, ho⟩ := c4.there
  rw [h] at ho; cases ho
theorem Wants.lst (hq : Wants κ B F0 H0 σ ρ0 ρ kr Q) (p : Post κ B F0 H0 σ ρ0 F H ρ) {vs : List V} {ds : List D} (rl : RepL κ F ds vs) {q : Addr} (hn : H q = none) (hk : kr (.new (.lst ds))) : Q (.ref q) (upd H q (.lst vs)) := by
  have pp : Post κ B F H σ ρ F (upd H q (.lst vs)) ρ := .heap p.env (same_new hn)
  exact hq _ _ F _ hk (p.trans pp) ⟨q, rfl, p.env.sub.free hn, p.env.noRoot hn, ⟨vs, upd_same, rl⟩, p.back hn, p.env.bas.free hn⟩
theorem Wants.tup (hq : Wants κ B F0 H0 σ ρ0 ρ kr Q) (p : Post κ B F0 H0 σ ρ0 F H ρ) {vs : List V} {ds : List D} (rl : RepL κ F ds vs) {q : Addr} (hn : H q = none) (hk : kr (.val (.tup ds))) : Q (.ref q) (upd H q (.tup vs)) := by
  have pp : Post κ B F H σ ρ (upd F q (.tup vs)) (upd H q (.tup vs)) ρ := .newFr p.env hn
  refine hq _ _ _ _ hk (p.trans pp) ?_
  show Rep κ _ _ _
  unfold Rep
  exact ⟨q, vs, rfl, .inl upd_same, rl.mono pp.exF⟩
theorem Wants.val (hq : Wants κ B F0 H0 σ ρ0 ρ kr Q) (p : Post κ B F0 H0 σ ρ0 F H ρ) {v : V} {d : D} (hk : kr (.val d)) (h : Rep κ F d v) : Q v H := hq _ _ F H hk p h

/-! ### operators -/
/-- an operation on values: what r asks is had from what can be read -/
theorem dOp_ok {op : Operator} {x y : D} {v w : V} {pins : List (Addr × Obj)} {s : Shared} {u u' : Value} (hK : X.K = κ.K) (I : Inv X pins σ H s) (rv : RelV v u) (rw' : RelV w u') (hx : RdAt κ F H x v) (hy : RdAt κ F H y w)
    (p : Post κ B F0 H0 σ ρ0 F H ρ) (hd : dOp op x y kr) (hq : Wants κ B F0 H0 σ ρ0 ρ kr Q) :
    wpAny (model X.prog X.w) X.A (binaryOp op u u') (EP X pins σ Q) X.xe s := by
  unfold dOp at hd
  split at hd
  · cases hx; cases hy
    exact op_add pins s σ H _ _ u u' Q I rv rw' ⟨_, _, rfl, rfl, hq.val p hd rfl⟩
  · cases hx; cases hy
    exact op_add_str pins s σ H _ _ u u' Q I rv rw' ⟨_, _, rfl, rfl, hd.1, hq.val p hd.2 rfl⟩
  · obtain ⟨a, vs, rfl, h1, r1⟩ := hx
    obtain ⟨b, ws, rfl, h2, r2⟩ := hy
    exact op_cat pins s σ H _ _ u u' Q I rv rw' ⟨a, b, vs, ws, rfl, rfl, h1, h2, by rw [← r1.len, ← r2.len]; exact hd.1, fun q hn => hq.lst p (r1.app r2) hn hd.2⟩
  · have hx : Rep κ F _ _ := hx
    have hy : Rep κ F _ _ := hy
    unfold Rep at hx hy
    obtain ⟨a, vs, rfl, h1, r1⟩ := hx
    obtain ⟨b, ws, rfl, h2, r2⟩ := hy
    refine op_catT pins s σ H _ _ u u' Q I rv rw' ⟨a, b, vs, ws, rfl, rfl, by rw [hK]; exact (same_t p.env.sub h1).sq, by rw [hK]; exact (same_t p.env.sub h2).sq, fun z => hd.1 ?_, by rw [← r1.len, ← r2.len]; exact hd.2.1, fun z => ?_, fun z q hn => hq.tup p (r1.app r2) hn hd.2.2⟩
    · have := r1.len; rw [z] at this; exact List.length_eq_zero_iff.mp this
    · refine hq.val p hd.2.2 ?_
      have e := r2.len
      rw [z] at e
      rw [List.length_eq_zero_iff.mp e, List.append_nil]
      unfold Rep
      exact ⟨a, vs, rfl, h1, r1⟩
  · cases hx; cases hy
    exact op_sub pins s σ H _ _ u u' Q I rv rw' ⟨_, _, rfl, rfl, hq.val p hd rfl⟩
  · cases hx; cases hy
    exact op_mul pins s σ H _ _ u u' Q I rv rw' ⟨_, _, rfl, rfl, hd.1, hq.val p hd.2 rfl⟩
  · obtain ⟨a, vs, rfl, h1, r1⟩ := hx
    cases hy
    refine op_rep pins s σ H _ _ u u' Q I rv rw' ⟨a, _, vs, rfl, rfl, h1, hd.1.1, hd.1.2.1, by rw [← r1.len]; exact hd.1.2.2, fun q hn => hq.lst p ?_ hn hd.2⟩
    generalize Int.toNat _ = n
    clear hd hq
    induction n with
    | zero => exact .nil
    | succ n ih => rw [List.replicate_succ, List.replicate_succ, List.flatten_cons, List.flatten_cons]; exact r1.app ih
  · cases hx; cases hy
    exact op_fdiv pins s σ H _ _ u u' Q I rv rw' ⟨_, _, rfl, rfl, hd.1, hq.val p hd.2 rfl⟩
  · cases hx; cases hy
    exact op_mod pins s σ H _ _ u u' Q I rv rw' ⟨_, _, rfl, rfl, hd.1, hq.val p hd.2 rfl⟩
  · cases hx; cases hy
    exact op_pow pins s σ H _ _ u u' Q I rv rw' ⟨_, _, rfl, rfl, hd.1, hq.val p hd.2 rfl⟩
  · exact hd.elim

/-! ### comparisons -/
mutual
theorem toPy_dp (s : Same F H) : ∀ (d : D) (v : V) (q : PyData), toPy d = some q → Rep κ F d v → Dp κ.K H v q
  | .non, v, q, e, h => by cases e; cases h; exact .non
  | .bl _, v, q, e, h => by cases e; cases h; exact .bl _
  | .int _, v, q, e, h => by cases e; cases h; exact .int _
  | .str _, v, q, e, h => by cases e; cases h; exact .str _
  | .lst ds, v, q, e, h => by
    unfold toPy at e
    obtain ⟨ps, e1, rfl⟩ := Option.map_eq_some_iff.mp e
    unfold Rep at h
    obtain ⟨p, vs, rfl, h1, h2⟩ := h
    exact .lst (SqL.of (s _ _ h1)) (toPys_dp s ds vs ps e1 h2)
  | .tup ds, v, q, e, h => by
    unfold toPy at e
    obtain ⟨ps, e1, rfl⟩ := Option.map_eq_some_iff.mp e
    unfold Rep at h
    obtain ⟨p, vs, rfl, h1, h2⟩ := h
    exact .tup (same_t s h1).sq (toPys_dp s ds vs ps e1 h2)
  | .dic _ _, v, q, e, h => by cases e
  | .obj _ _ _, v, q, e, h => by cases e
  | .box _, v, q, e, h => by cases e
  | .scr _, v, q, e, h => by cases e
  | .ty _, v, q, e, h => by cases e
  | .cl _, v, q, e, h => by cases e
theorem toPys_dp (s : Same F H) : ∀ (ds : List D) (vs : List V) (qs : List PyData), toPys ds = some qs → RepL κ F ds vs → DpAll κ.K H vs qs
  | [], vs, qs, e, h => by cases e; rw [h.nil_inv]; exact .nil
  | d :: ds, vs, qs, e, h => by
    unfold toPys at e
    obtain ⟨v, r, rfl, h1, h2⟩ := h.cons_inv
    cases e1 : toPy d with
    | none => rw [e1] at e; cases e
    | some q =>
      cases e2 : toPys ds with
      | none => rw [e1, e2] at e; cases e
      | some qs' =>
        rw [e1, e2] at e; cases e
        exact .cons (toPy_dp s d v q e1 h1) (toPys_dp s ds r qs' e2 h2)
end
theorem rd_dp {d : D} {v : V} {q : PyData} (s : Same F H) (e : toPy d = some q) (h : RdAt κ F H d v) : Dp κ.K H v q := by
  cases d with
  | lst ds =>
    unfold toPy at e
    obtain ⟨ps, e1, rfl⟩ := Option.map_eq_some_iff.mp e
    obtain ⟨p, vs, rfl, h1, h2⟩ := h
    exact .lst (SqL.of h1) (toPys_dp s ds vs ps e1 h2)
  | dic _ _ => cases e
  | obj _ _ _ => cases e
  | _ => exact toPy_dp s _ v q e h
theorem isNon_of {x : D} {v : V} (hx : RdAt κ F H x v) : decide (v = V.non) = isNon x := by
  cases x with
  | non => cases hx; rfl
  | bl _ => cases hx; rfl
  | int _ => cases hx; rfl
  | str _ => cases hx; rfl
  | lst _ => obtain ⟨_, _, rfl, _⟩ := hx; rfl
  | tup _ => have hx : Rep κ F _ _ := hx; unfold Rep at hx; obtain ⟨_, _, rfl, _⟩ := hx; rfl
  | dic _ _ => obtain ⟨_, _, rfl, _⟩ := hx; rfl
  | obj _ _ _ => obtain ⟨_, _, _, rfl, _⟩ := hx; rfl
  | box _ => have hx : Rep κ F _ _ := hx; unfold Rep at hx; obtain ⟨_, rfl, _⟩ := hx; rfl
  | scr _ => have hx : Rep κ F _ _ := hx; unfold Rep at hx; obtain ⟨_, rfl, _⟩ := hx; rfl
  | ty _ => cases hx; rfl
  | cl _ => cases hx; rfl
  | src => have hx : Rep κ F _ _ := hx; unfold Rep at hx; obtain ⟨_, _, rfl, _⟩ := hx; rfl
theorem flat_of {d : D} {v : V} (h : Rep κ F d v) (hf : flatD d = true) : flatV v = true := by
  cases d <;> (try exact absurd hf Bool.false_ne_true) <;> (cases h; rfl)
theorem eqD_of {d e : D} {v w : V} (h : Rep κ F d v) (h' : Rep κ F e w) (hf : flatD d = true) (hf' : flatD e = true) : eqV v w = eqD d e := by
  cases d <;> (try exact absurd hf Bool.false_ne_true) <;> cases e <;> (try exact absurd hf' Bool.false_ne_true) <;> (cases h; cases h'; rfl)
theorem flats_of : ∀ {ds : List D} {vs : List V}, RepL κ F ds vs → ds.all flatD = true → vs.all flatV = true
  | [], _, h, _ => by rw [h.nil_inv]; rfl
  | d :: ds, _, h, e => by
    obtain ⟨v, r, rfl, h1, h2⟩ := h.cons_inv
    rw [List.all_cons, Bool.and_eq_true] at e ⊢
    exact ⟨flat_of h1 e.1, flats_of h2 e.2⟩
theorem anyEq_of {d : D} {w : V} (h' : Rep κ F d w) (hf' : flatD d = true) : ∀ {ds : List D} {vs : List V}, RepL κ F ds vs → ds.all flatD = true → inV w vs = ds.any fun y => eqD y d
  | [], _, h, _ => by rw [h.nil_inv]; rfl
  | e :: ds, _, h, ef => by
    obtain ⟨v, r, rfl, h1, h2⟩ := h.cons_inv
    rw [List.all_cons, Bool.and_eq_true] at ef
    have ih := anyEq_of h' hf' h2 ef.2
    unfold inV at ih ⊢
    rw [List.any_cons, List.any_cons, ih, eqD_of h1 h' ef.1 hf']
theorem flat_rd {d : D} {v : V} (h : RdAt κ F H d v) (hf : flatD d = true) : Rep κ F d v := by
  cases d <;> (try exact absurd hf Bool.false_ne_true) <;> exact h
theorem dEq_ok {x y : D} {v w : V} {pins : List (Addr × Obj)} {s : Shared} {u u' : Value} {kb : Bool → Prop} (neg : Bool) (hK : X.K = κ.K) (hu : X.A.units + 64 < cLine) (I : Inv X pins σ H s) (rv : RelV v u) (rw' : RelV w u')
    (hx : RdAt κ F H x v) (hy : RdAt κ F H y w) (sF : Same F H) (hd : dEq x y kb) (hq : ∀ b, kb b → Q (.bl (if neg then !b else b)) H) :
    wpAny (model X.prog X.w) X.A (compareOp (if neg then .NotEq else .Eq) u u') (EP X pins σ Q) X.xe s := by
  have gen : (∃ p q, toPy x = some p ∧ toPy y = some q ∧ SeqAt.shaped p = true ∧ SeqAt.shaped q = true ∧ kb (PyData.eqv p q)) → wpAny (model X.prog X.w) X.A (compareOp (if neg then .NotEq else .Eq) u u') (EP X pins σ Q) X.xe s := by
    rintro ⟨p, q, h1, h2, h3, h4, h5⟩
    have d1 := rd_dp sF h1 hx
    have d2 := rd_dp sF h2 hy
    rw [← hK] at d1 d2
    cases neg with
    | false => exact op_eqD hu pins s σ H v w u u' Q I rv rw' ⟨p, q, d1, d2, h3, h4, hq _ h5⟩
    | true => exact op_neD hu pins s σ H v w u u' Q I rv rw' ⟨p, q, d1, d2, h3, h4, hq _ h5⟩
  have sc : ∀ (b : Bool), scal v w = true → b = decide (v = w) → kb b → wpAny (model X.prog X.w) X.A (compareOp (if neg then .NotEq else .Eq) u u') (EP X pins σ Q) X.xe s := fun b h1 h2 h3 => by
    subst h2
    cases neg with
    | false => exact op_eq pins s σ H v w u u' Q I rv rw' ⟨h1, hq _ h3⟩
    | true => exact op_ne pins s σ H v w u u' Q I rv rw' ⟨h1, hq _ h3⟩
  unfold dEq at hd
  split at hd
  · cases hx; cases hy
    exact sc _ rfl (by simp) hd
  · cases hx; cases hy
    exact sc _ rfl (by simp) hd
  · cases hx; cases hy
    exact sc _ rfl (by simp) hd
  · exact gen hd
theorem dict_keep {P : Program} {wd : World} {h1 h2 : Heap} {p : Addr} {kvs : List (Option Key × Value)} (x : h1.DictOf (noneKind P wd) p kvs) (f : ∀ o, h1.get? p = some o → h2.get? p = some o) : h2.DictOf (noneKind P wd) p kvs := by
  obtain ⟨o, es, ep, e, r⟩ := x
  exact ⟨o, es, ep, f o e, r⟩
theorem keyD_is {P : Program} {wd : World} {d : D} {v : V} {u : Value} {key : Option Key} (h : RdAt κ F H d v) (r : RelV v u) (e : keyD d = some key) : (noneKind P wd).is key u = true := by
  cases d with
  | non => cases e; cases h; cases r; rfl
  | int i => cases e; cases h; exact kV_is (P := P) (w := wd) (k := .inl i) r
  | str x => cases e; cases h; exact kV_is (P := P) (w := wd) (k := .inr x) r
  | _ => cases e
theorem valueAt_zip {key : Option Key} : ∀ {ks : List (Option Key)} {us : List Value}, ks.length = us.length → (valueAt (ks.zip us) key).isSome = ks.any fun j => decide (j = key)
  | [], [], _ => rfl
  | k :: ks, u :: us, h => by
    have ih := valueAt_zip (key := key) (ks := ks) (us := us) (by simpa using h)
    unfold valueAt at ih ⊢
    rw [List.zip_cons_cons, List.find?_cons, List.any_cons]
    by_cases e : k = key
    · simp [e]
    · simp only [e, decide_false, Bool.false_or]
      exact ih
  | [], _ :: _, h => by simp at h
  | _ :: _, [], h => by simp at h
theorem nd_at (hnd : κ.nd = ndP X.prog X.w) {pins : List (Addr × Obj)} {s : Shared} {p : Addr} {ks : List (Option Key)} {vs : List V} (I : Inv X pins σ H s) (h : H p = some (.ext (κ.nd p ks vs))) :
    ks.length ≤ sizeLine ∧ (p == sysModules) = false ∧ ks.length = vs.length ∧ ∃ us, Vals vs us ∧ s.heap.DictOf (noneKind X.prog X.w) p (ks.zip us) := by
  have q := (I.hok p _ h).1
  rw [hnd] at q
  exact q
theorem dCmp_ok {op : CmpOp} {x y : D} {v w : V} {pins : List (Addr × Obj)} {s : Shared} {u u' : Value} {kb : Bool → Prop} (hK : X.K = κ.K) (hnd : κ.nd = ndP X.prog X.w) (hu : X.A.units + 64 < cLine) (I : Inv X pins σ H s) (rv : RelV v u) (rw' : RelV w u')
    (hx : RdAt κ F H x v) (hy : RdAt κ F H y w) (sF : Same F H) (hd : dCmp op x y kb) (hq : ∀ b, kb b → Q (.bl b) H) :
    wpAny (model X.prog X.w) X.A (compareOp op u u') (EP X pins σ Q) X.xe s := by
  unfold dCmp at hd
  split at hd
  · exact dEq_ok false hK hu I rv rw' hx hy sF hd fun b hb => hq b hb
  · exact dEq_ok true hK hu I rv rw' hx hy sF hd fun b hb => hq _ hb
  · cases hx; cases hy
    exact op_lt pins s σ H _ _ u u' Q I rv rw' ⟨_, _, rfl, rfl, hq _ hd⟩
  · cases hx; cases hy
    exact op_le pins s σ H _ _ u u' Q I rv rw' ⟨_, _, rfl, rfl, hq _ hd⟩
  · cases hx; cases hy
    exact op_gt pins s σ H _ _ u u' Q I rv rw' ⟨_, _, rfl, rfl, hq _ hd⟩
  · cases hx; cases hy
    exact op_ge pins s σ H _ _ u u' Q I rv rw' ⟨_, _, rfl, rfl, hq _ hd⟩
  · cases hy
    refine op_isN pins s σ H _ _ u u' Q I rv rw' ⟨rfl, ?_⟩
    rw [isNon_of hx]
    exact hq _ hd
  · cases hy
    refine op_notN pins s σ H _ _ u u' Q I rv rw' ⟨rfl, ?_⟩
    rw [isNon_of hx]
    exact hq _ hd
  · unfold dIn at hd
    split at hd
    · obtain ⟨a, vs, rfl, h1, hl, r1⟩ := hy
      cases hk : keyD x with
      | none => rw [hk] at hd; exact hd.elim
      | some key =>
        rw [hk] at hd
        obtain ⟨_, hS, hlen, us, rus, dd⟩ := nd_at hnd I h1
        cases rw'
        refine wpAny_in_of (keyD_is hx rv hk) hS dd.mapOf ?_
        rw [valueAt_zip (by rw [hlen, rus.length])]
        exact ⟨.bl _, H, I.tok _, rfl, hq _ hd⟩
    · obtain ⟨a, vs, rfl, h1, r1⟩ := hy
      have hx' := flat_rd hx hd.1
      refine op_in_seq pins s σ H _ _ u u' Q I rv rw' ⟨a, vs, rfl, .inl (SqL.of h1), flat_of hx' hd.1, flats_of r1 hd.2.1, ?_⟩
      rw [anyEq_of hx' hd.1 r1 hd.2.1]
      exact hq _ hd.2.2
    · have hy : Rep κ F _ _ := hy
      unfold Rep at hy
      obtain ⟨a, vs, rfl, h1, r1⟩ := hy
      have hx' := flat_rd hx hd.1
      refine op_in_seq pins s σ H _ _ u u' Q I rv rw' ⟨a, vs, rfl, .inr (by rw [hK]; exact (same_t sF h1).sq), flat_of hx' hd.1, flats_of r1 hd.2.1, ?_⟩
      rw [anyEq_of hx' hd.1 r1 hd.2.1]
      exact hq _ hd.2.2
    · cases hy
      split at hd
      · cases hx
        exact op_in_str pins s σ H _ _ u u' Q I rv rw' ⟨_, _, rfl, rfl, hq _ hd⟩
      · exact hd.elim
    · exact hd.elim
  · unfold dIn at hd
    split at hd
    · obtain ⟨a, vs, rfl, h1, hl, r1⟩ := hy
      cases hk : keyD x with
      | none => rw [hk] at hd; exact hd.elim
      | some key =>
        rw [hk] at hd
        obtain ⟨_, hS, hlen, us, rus, dd⟩ := nd_at hnd I h1
        cases rw'
        refine wpAny_notIn_of (keyD_is hx rv hk) hS dd.mapOf ?_
        rw [valueAt_zip (by rw [hlen, rus.length])]
        exact ⟨.bl _, H, I.tok _, rfl, hq _ hd⟩
    · obtain ⟨a, vs, rfl, h1, r1⟩ := hy
      have hx' := flat_rd hx hd.1
      refine op_notIn_seq pins s σ H _ _ u u' Q I rv rw' ⟨a, vs, rfl, .inl (SqL.of h1), flat_of hx' hd.1, flats_of r1 hd.2.1, ?_⟩
      rw [anyEq_of hx' hd.1 r1 hd.2.1]
      exact hq _ hd.2.2
    · have hy : Rep κ F _ _ := hy
      unfold Rep at hy
      obtain ⟨a, vs, rfl, h1, r1⟩ := hy
      have hx' := flat_rd hx hd.1
      refine op_notIn_seq pins s σ H _ _ u u' Q I rv rw' ⟨a, vs, rfl, .inr (by rw [hK]; exact (same_t sF h1).sq), flat_of hx' hd.1, flats_of r1 hd.2.1, ?_⟩
      rw [anyEq_of hx' hd.1 r1 hd.2.1]
      exact hq _ hd.2.2
    · cases hy
      split at hd
      · cases hx
        exact op_notin_str pins s σ H _ _ u u' Q I rv rw' ⟨_, _, rfl, rfl, hq _ hd⟩
      · exact hd.elim
    · exact hd.elim
  · exact hd.elim
end
/-! ### a source of draws: a dict with a list of ints in it -/
def lstP (xs : List V) (p : Addr) (h : Heap) : Prop := xs.length ≤ sizeLine ∧ ∃ (its : List Value) (n : Nat), Vals xs its ∧ h.get? p = some { cls := .type "list", data := .seq its.toArray n }
def srcKs : List (Option Key) := [strKey "great", strKey "now", strKey "mixed", strKey "turn"]
def srcVs (q : Addr) (a b c : Int) : List V := [.ref q, .int a, .int b, .int c]
/-- a list of ints at q, whatever they are -/
def bxI (q : Addr) (p : Addr) (h : Heap) : Prop := p = q ∧ ∃ ns : List Int, lstP (ns.map V.int) p h
theorem bxI_stay {q p : Addr} (h1 h2 : Heap) (x : bxI q p h1) (k : ∀ o, h1.get? p = some o → h2.get? p = some o) : bxI q p h2 := by
  obtain ⟨e, ns, z, its, n, r, g⟩ := x
  exact ⟨e, ns, z, its, n, r, k _ g⟩
end DL

set_option Elab.async false
set_option linter.all false
set_option maxRecDepth 100000
set_option maxHeartbeats 1000000
/-! DL5: defs by what they do to data; contexts. -/
namespace DL
open PySem PySem.Spec PyProof.Rows L2

/-! ### a def's promise, where no repr is under way -/
structure FnG (P : Program) (w : World) (K : PySem.W.Frag) (mg : Str → Option Value) (base : Heap) (CX : CXT) (k : Nat) (f : Addr) (fd : FuncData) (ps : List Str) (sp : Sp) : Prop where
  len : ∀ vs H Q E, sp vs H Q E → vs.length = ps.length
  run : ∀ (A : Around) (outer : List Env) (s : Shared) (H : Hp) (args : Args) (us : List Value) (vs : List V) (Q : VK) (E : XK), Room k A → A.guards = some [] → Env0 P w K mg base A outer s H → BindsTo s fd args (ps.zip us) → Vals vs us → sp vs H Q E →
    codeAny (model P w) A (.call (.ref f) args) (CR CX outer P w H s Q E) s
theorem FnG.of {P : Program} {w : World} {K : PySem.W.Frag} {mg : Str → Option Value} {base : Heap} {CX : CXT} {k : Nat} {f : Addr} {fd : FuncData} {ps : List Str} {sp : Sp} (F : FnOk P w K mg base CX k f fd ps sp) : FnG P w K mg base CX k f fd ps sp :=
  ⟨F.len, fun A outer s H args us vs Q E hr _ => F.run A outer s H args us vs Q E hr⟩
theorem FnG.mono {P : Program} {w : World} {K : PySem.W.Frag} {mg : Str → Option Value} {base : Heap} {CX : CXT} {j k : Nat} {f : Addr} {fd : FuncData} {ps : List Str} {sp : Sp} (F : FnG P w K mg base CX j f fd ps sp) (h : j ≤ k) :
    FnG P w K mg base CX k f fd ps sp := ⟨F.len, fun A outer s H args us vs Q E hr => F.run A outer s H args us vs Q E (hr.mono h)⟩
theorem FnG.imp {P : Program} {w : World} {K : PySem.W.Frag} {mg : Str → Option Value} {base : Heap} {CX : CXT} {k : Nat} {f : Addr} {fd : FuncData} {ps : List Str} {sp sp' : Sp} (F : FnG P w K mg base CX k f fd ps sp)
    (h : ∀ vs H Q E, sp' vs H Q E → sp vs H Q E) : FnG P w K mg base CX k f fd ps sp' :=
  ⟨fun vs H Q E q => F.len vs H Q E (h _ _ _ _ q), fun A outer s H args us vs Q E hr hg he hb hv hs => F.run A outer s H args us vs Q E hr hg he hb hv (h _ _ _ _ hs)⟩
theorem fnG_of {CX : CXT} {P : Program} {w : World} {K : PySem.W.Frag} {mg : Str → Option Value} {base : Heap} {k : Nat} {f : Addr} {name qual : Str} {params : Arguments} {body : List Stmt} {scope : Scope} {dV kV doc pm cdv ct oc : Value} {an od : Option Addr}
    {osl : Array (Option Value)} {N ps : List Str} {sp : Sp} (lk : K.lookup f = some ⟨oc, od, .func (PySem.W.fnOf name qual params body scope dV kV doc pm an cdv ct), osl⟩) (hcd : PySem.W.codeIn K cdv qual = true) (S : FnScope N ps scope)
    (len : ∀ vs H Q E, sp vs H Q E → vs.length = ps.length)
    (hbody : ∀ (A : Around) (outer : List Env) (s : Shared) (H : Hp) (vs : List V) (Q : VK) (E : XK), Room k (A.deeper (envOfC qual scope s.heap.objs.size f cdv)) → A.guards = some [] → sp vs H Q E →
      ∃ t, PSs (cxOf CX P w K mg base N qual scope f cdv A outer s H E) body t ∧ t { nx := fun _ H' => Q .non H', rt := Q } (L2.start N vs) H) :
    FnG P w K mg base CX (k + 1) f (PySem.W.fnOf name qual params body scope dV kV doc pm an cdv ct) ps sp := by
  refine ⟨len, fun A outer s H args us vs Q E hr hgu e0 hb r hsp => ?_⟩
  have hl := len _ _ _ _ hsp
  have KX : K.In s.heap := e0.mod.kin.keeps fun b o e => (e0.bs b o e).1
  have lim : s.heap.NoLimit := e0.mod.nolimit.keeps fun b o e => (e0.bs b o e).1
  have hkind : ∀ y ∈ ps.zip us, scope.names.lookup y.1 = some .local ∨ (scope.names.lookup y.1 = some .cell ∧ ((cellsFrom (s.heap.objs.size + 1) scope.names []).lookup y.1).isSome = true) := fun ⟨n, v⟩ hy => by
    rcases S.par n (List.of_mem_zip hy).1 with q | q
    · exact .inl q
    · exact .inr ⟨q, PySem.W.cellsFrom_some _ _ _ (.inl q)⟩
  refine codeAny_call_function hr.depth (KX _ _ lk) rfl S.co S.gen rfl (PySem.W.codeRec_of KX hcd) (hb _ _ _ _ ?_)
  refine wpAny_newFunctionEnv_cells S.kind hkind fun env he s1 x => ?_
  subst he
  refine ⟨lim.keeps x.toInCall.keep, codeAny_func ?_⟩
  obtain ⟨t, ht, hq⟩ := hbody A outer s H vs Q E (hr.deeper _) hgu hsp
  have I : Inv (cxOf CX P w K mg base N qual scope f cdv A outer s H E) [] (L2.start N vs) H s1 := inv_start S hr.hd e0 hl r x
  refine wpAny_mono (ht.run [] s1 (L2.start N vs) H _ I hq) (fun fl s' hs => ?_) fun e s' hs => hs
  have fin : ∀ {σ' : L2.St} {H' : Hp} {v : V} {u : Value}, Inv (cxOf CX P w K mg base N qual scope f cdv A outer s H E) [] σ' H' s' → RelV v u → Q v H' → CE outer P w H s Q u s' :=
    fun {σ' H' v u} J rv q => ⟨v, H', J.os, J.bare, J.base, J.hok, rv, q⟩
  cases fl with
  | ret u =>
    obtain ⟨v, σ', H', J, rv, q⟩ := hs
    exact fin J rv q
  | next =>
    obtain ⟨σ', H', J, q⟩ := hs
    exact fin (v := V.non) (u := Value.none) J rfl q
  | brk =>
    obtain ⟨_, _, _, q⟩ := hs
    exact False.elim q
  | cont =>
    obtain ⟨_, _, _, q⟩ := hs
    exact False.elim q

/-- exceptions whose context is None, or any -/
def CXb (c : Bool) (P : Program) (w : World) : CXT := match c with
  | true => L2N.CX P w
  | false => L2.CX P w
def TakesB (c : Bool) (X : Cx) (W : WX) : Prop := match c with
  | true => L2N.Takes X W
  | false => L2.Takes X W
theorem cxn_imp {P : Program} {w : World} {outer : List Env} {H : Hp} {s : Shared} {E : XK} {u : Value} {s' : Shared} (h : L2N.CX P w outer H s E u s') : L2.CX P w outer H s E u s' := by
  obtain ⟨a, B, H', cls, d, e, fl, r⟩ := h
  exact ⟨a, B, H', cls, d, e, L2H.flyingZ_imp (fun o z => z.zc) fl, r⟩
theorem CXb.imp {c : Bool} {P : Program} {w : World} {outer : List Env} {H : Hp} {s : Shared} {E : XK} {u : Value} {s' : Shared} (h : CXb c P w outer H s E u s') : L2.CX P w outer H s E u s' := by
  cases c with
  | true => exact cxn_imp h
  | false => exact h
theorem xen_imp {X : Cx} {W : WX} {u : Value} {s' : Shared} (h : L2N.XE X W u s') : L2.XE X W u s' := by
  obtain ⟨a, B, sI, pins, σ, H, cls, d, e, I, nb, up, sky, r⟩ := h
  refine ⟨a, B, sI, pins, σ, H, cls, d, e, I, nb, up, ?_, r⟩
  rcases sky with ⟨h1, h2, h3, oe, vs, he, hz, r⟩ | fl | hd
  · exact .inl ⟨h1, h2, h3, oe, vs, he, hz.zc, r⟩
  · exact .inr (.inl (L2H.flyingZ_imp (fun o z => z.zc) fl))
  · exact .inr (.inr ⟨hd.1, hd.2.1, hd.2.2.1, L2H.tracedZ_imp (fun o z => z.zc) hd.2.2.2⟩)
theorem takes_n {X : Cx} {W : WX} (t : L2.Takes X W) : L2N.Takes X W := fun u s' x => t u s' (xen_imp x)
theorem TakesB.n {c : Bool} {X : Cx} {W : WX} (t : TakesB c X W) : L2N.Takes X W := by
  cases c with
  | true => exact t
  | false => exact takes_n t
theorem FnG.cx {P : Program} {w : World} {K : PySem.W.Frag} {mg : Str → Option Value} {base : Heap} {CX CX' : CXT} {k : Nat} {f : Addr} {fd : FuncData} {ps : List Str} {sp : Sp} (F : FnG P w K mg base CX k f fd ps sp)
    (h : ∀ outer H s E u s', CX outer H s E u s' → CX' outer H s E u s') : FnG P w K mg base CX' k f fd ps sp :=
  ⟨F.len, fun A outer s H args us vs Q E hr hg he hb hv hs => codeAny_mono (F.run A outer s H args us vs Q E hr hg he hb hv hs) fun r s' hq => by
    cases r with
    | error e => exact h _ _ _ _ _ _ hq
    | ok fl => cases fl <;> exact hq⟩
theorem FnG.hot {P : Program} {w : World} {K : PySem.W.Frag} {mg : Str → Option Value} {base : Heap} {c : Bool} {k : Nat} {f : Addr} {fd : FuncData} {ps : List Str} {sp : Sp} (F : FnG P w K mg base (CXb c P w) k f fd ps sp) : FnG P w K mg base (L2.CX P w) k f fd ps sp :=
  F.cx fun _ _ _ _ _ _ h => h.imp

section
variable {X : Cx} {CX : CXT} {k : Nat} {f C : Addr} {fd : FuncData} {ps : List Str} {sp : Sp} {dvs : List V} {ds : List Value} {E : XK} {x m : Str} {p pos apos : Pos} {e o : Expr} {es : List Expr} {ta : TE} {t : TA}
theorem run_fnG {pins : List (Addr × Obj)} {σ : L2.St} {H : Hp} {s : Shared} {Q : VK} {us : List Value} {vs : List V} (F : FnG X.prog X.w X.K X.mg X.base CX k f fd ps sp) (hr : Room k X.A) (hgu : X.A.guards = some []) (hb : Binds X.K fd ps ds) (hd : Vals dvs ds) (hx : Passes CX X E)
    (I : Inv X pins σ H s) (r : Vals vs us) (h : sp (vs ++ dvs) H Q E) : wpAny (model X.prog X.w) X.A (call (.ref f) us) (EP X pins σ Q) X.xe s := by
  have r2 : Vals (vs ++ dvs) (us ++ ds) := r.append hd
  have hl : (us ++ ds).length = ps.length := by rw [← r2.length]; exact F.len _ _ _ _ h
  refine wpAny_call (codeAny_mono (F.run X.A X.stack s H ⟨us, []⟩ (us ++ ds) (vs ++ dvs) Q E hr hgu I.env0 (hb s us I.kIn hl) r2 h) fun r s' hq => ?_)
  cases r with
  | error e => exact hx pins σ H s e s' I hq
  | ok fl =>
    cases fl with
    | ret u => exact I.after hq
    | next => exact False.elim hq
    | brk => exact False.elim hq
    | cont => exact False.elim hq
theorem pe_callG (F : FnG X.prog X.w X.K X.mg X.base CX k f fd ps sp) (hr : Room k X.A) (hgu : X.A.guards = some []) (hg : Gl X x) (hm : X.mg x = some (.ref f)) (hk : PySem.W.keepIn X.K (.ref f) = true) (hb : Binds X.K fd ps ds) (hd : Vals dvs ds) (hx : Passes CX X E)
    (ha : PA X (e :: es) t) (hdb : (x == ("__debug__" : Str)) = false) (he : starEach (e :: es) X.env = (false, eval e X.env) :: starEach es X.env) (hpl : (backTo pos (starEach es X.env)).any (·.1) = false) :
    PE X (.Call (.Name x p) (e :: es) [] pos) (tCall sp dvs E t) := by
  refine ⟨fun pins s σ H Q I h => ?_⟩
  refine wpAny_Call_Name_kw (ld_glob I hg hm ?_ hdb)
  refine PySem.W.callWith_K (h₀ := X.base) I.ok.mod.kin hk (thn (ha.run pos pins s σ H _ I h) fun us s1 ⟨vs, H1, I1, r, q⟩ => ⟨I1.kIn, ?_⟩) he hpl
  exact run_fnG F hr hgu hb hd hx I1 r q
theorem pe_callG0 (F : FnG X.prog X.w X.K X.mg X.base CX k f fd ps sp) (hr : Room k X.A) (hgu : X.A.guards = some []) (hg : Gl X x) (hm : X.mg x = some (.ref f)) (hk : PySem.W.keepIn X.K (.ref f) = true) (hb : Binds X.K fd ps ds) (hd : Vals dvs ds) (hx : Passes CX X E)
    (hdb : (x == ("__debug__" : Str)) = false) : PE X (.Call (.Name x p) [] [] pos) (tCall sp dvs E tNil) := by
  refine ⟨fun pins s σ H Q I h => ?_⟩
  refine wpAny_Call_Name_kw (ld_glob I hg hm ?_ hdb)
  exact PySem.W.callWith_K0 I.kIn hk (run_fnG (us := []) F hr hgu hb hd hx I .nil h)
/-- what is wanted of o.m(..) once o's value is there: the class is found then -/
def MethQ (X : Cx) (m : Str) (t : TA) (σ : L2.St) (x : V) (H1 : Hp) (Q : VK) : Prop := ∃ (CX : CXT) (k : Nat) (f C : Addr) (fd : FuncData) (ps : List Str) (sp : Sp) (ds : List Value) (dvs : List V) (E : XK) (a dx : Addr) (fs : List (Str × V)),
  Cls X.K C ∧ Meth X.K C m f ∧ FnG X.prog X.w X.K X.mg X.base CX k f fd ps sp ∧ Room k X.A ∧ Binds X.K fd ps ds ∧ Vals dvs ds ∧ Passes CX X E ∧ x = .ref a ∧ H1 a = some (.ins C dx fs) ∧ fs.lookup m = none ∧ t σ H1 fun vs H2 => sp (x :: (vs ++ dvs)) H2 Q E
theorem pe_methG {pl : Sem Bool} (he : PE X o ta) (hgu : X.A.guards = some []) (ha : PA X (e :: es) t)
    (hst : starEach (e :: es) X.env = (false, eval e X.env) :: starEach es X.env) (hpl : (backTo pos (starEach es X.env)).any (·.1) = false)
    (ht : eval (.Call (.Attribute o m apos) (e :: es) [] pos) X.env = (do
      let ov ← eval o X.env
      standAt apos.atName
      let (f, first) ← holding [ov] (getMethod ov m pl)
      callWith pos f first (backTo pos (starEach (e :: es) X.env)) (backToKw pos (keywordEach [] X.env)))) :
    PE X (.Call (.Attribute o m apos) (e :: es) [] pos) (fun σ H Q => ta σ H fun x H1 => MethQ X m t σ x H1 Q) := by
  refine ⟨fun pins s σ H Q I h => ?_⟩
  refine PySem.W.methodCall_KW (pl := pl) (thn (he.run pins s σ H _ I h) fun u s1 ⟨x, H1, I1, rx, CX, k, f, C, fd, ps, sp, ds, dvs, E, a, dx, fs, c, hm, F, hr, hb, hd, hx, ex, ea, l, q⟩ => ?_) ht
  subst ex
  obtain rfl : u = Value.ref a := rx
  refine getmeth_ok I1 ea c hm l ?_
  refine PySem.W.callWith_K (first := [.ref a]) (h₀ := X.base) I.ok.mod.kin hm.kp (thn (ha.run pos pins s1 σ H1 _ I1 q) fun us s2 ⟨vs, H2, I2, r, q2⟩ => ⟨I2.kIn, ?_⟩) hst hpl
  exact run_fnG (us := .ref a :: us) (vs := .ref a :: vs) F hr hgu hb hd hx I2 (.cons rfl r) q2
theorem pe_methG0 {pl : Sem Bool} (he : PE X o ta) (hgu : X.A.guards = some [])
    (ht : eval (.Call (.Attribute o m apos) [] [] pos) X.env = (do
      let ov ← eval o X.env
      standAt apos.atName
      let (f, first) ← holding [ov] (getMethod ov m pl)
      callWith pos f first (backTo pos (starEach [] X.env)) (backToKw pos (keywordEach [] X.env)))) :
    PE X (.Call (.Attribute o m apos) [] [] pos) (fun σ H Q => ta σ H fun x H1 => MethQ X m tNil σ x H1 Q) := by
  refine ⟨fun pins s σ H Q I h => ?_⟩
  refine PySem.W.methodCall_KW (pl := pl) (thn (he.run pins s σ H _ I h) fun u s1 ⟨x, H1, I1, rx, CX, k, f, C, fd, ps, sp, ds, dvs, E, a, dx, fs, c, hm, F, hr, hb, hd, hx, ex, ea, l, q⟩ => ?_) ht
  subst ex
  obtain rfl : u = Value.ref a := rx
  refine getmeth_ok I1 ea c hm l ?_
  exact PySem.W.callWith_K0 (first := [.ref a]) I1.kIn hm.kp (run_fnG (us := [.ref a]) (vs := [.ref a]) F hr hgu hb hd hx I1 (.cons rfl .nil) q)
theorem guards_make {A : Around} {C : Addr} {us : List Value} {kw : List (Str × Value)} : (A.under (.builtin "type.__call__" ⟨.ref C :: us, kw⟩)).guards = A.guards := by
  show pushGuards (Code.guards (.builtin "type.__call__" ⟨.ref C :: us, kw⟩)) A.guards = A.guards
  have e : Code.guards (.builtin "type.__call__" ⟨.ref C :: us, kw⟩) = [] := by
    first | rfl | simp [Code.guards, Code.isGuard, guardIds]
  rw [e]
  cases A.guards <;> rfl
theorem run_makeG {pins : List (Addr × Obj)} {σ : L2.St} {H : Hp} {s : Shared} {Q : VK} {us : List Value} {vs : List V} (M : Mk X.K C f) (F : FnG X.prog X.w X.K X.mg X.base CX k f fd ps sp) (hr : Room (k + 1) X.A) (hgu : X.A.guards = some []) (hb : Binds X.K fd ps ds) (hd : Vals dvs ds)
    (hx : Passes CX X E) (I : Inv X pins σ H s) (r : Vals vs us)
    (h : ∀ x dx, H x = none → H dx = none → dx ≠ x → sp (.ref x :: (vs ++ dvs)) (upd (upd H dx (.own x)) x (.ins C dx [])) (fun v H2 => v = .non ∧ Q (.ref x) H2) E) :
    wpAny (model X.prog X.w) X.A (call (.ref C) us) (EP X pins σ Q) X.xe s := by
  have hq := h (s.heap.objs.size + 1) s.heap.objs.size (I.hok.fresh (Nat.le_succ _)) (I.hok.fresh (Nat.le_refl _)) (Nat.ne_of_lt (Nat.lt_succ_self _))
  have I2 := Inv.made (C := C) I
  have r2 : Vals (V.ref (s.heap.objs.size + 1) :: (vs ++ dvs)) (Value.ref (s.heap.objs.size + 1) :: (us ++ ds)) := .cons rfl (r.append hd)
  have hl : (Value.ref (s.heap.objs.size + 1) :: us ++ ds).length = ps.length := by
    have e := r2.length
    rw [F.len _ _ _ _ hq] at e
    exact e.symm
  refine wpAny_call (make_map (f := f) I.kIn M.makes M.init (beq_iff_eq.mp M.fn) (codeAny_mono (F.run _ X.stack _ _ ⟨Value.ref (s.heap.objs.size + 1) :: us, []⟩ (Value.ref (s.heap.objs.size + 1) :: (us ++ ds)) _ _ E (hr.make C us []) (by rw [guards_make]; exact hgu)
    (I2.env0.make C us []) (hb _ (Value.ref (s.heap.objs.size + 1) :: us) I2.kIn hl) r2 hq) fun r s' hq' => ?_))
  cases r with
  | error e => exact hx pins σ _ _ e s' I2 hq'
  | ok fl =>
    cases fl with
    | ret u =>
      obtain ⟨v, H', I3, rv, ev, q3⟩ := I2.after hq'
      subst ev
      exact ⟨rv, ⟨V.ref (s.heap.objs.size + 1), H', I3, rfl, q3⟩⟩
    | next => exact False.elim hq'
    | brk => exact False.elim hq'
    | cont => exact False.elim hq'
theorem pe_makeG (M : Mk X.K C f) (F : FnG X.prog X.w X.K X.mg X.base CX k f fd ps sp) (hr : Room (k + 1) X.A) (hgu : X.A.guards = some []) (hg : Gl X x) (hm : X.mg x = some (.ref C)) (hb : Binds X.K fd ps ds) (hd : Vals dvs ds) (hx : Passes CX X E)
    (ha : PA X (e :: es) t) (hdb : (x == ("__debug__" : Str)) = false) (he : starEach (e :: es) X.env = (false, eval e X.env) :: starEach es X.env) (hpl : (backTo pos (starEach es X.env)).any (·.1) = false) :
    PE X (.Call (.Name x p) (e :: es) [] pos) (tMake C sp dvs E t) := by
  refine ⟨fun pins s σ H Q I h => ?_⟩
  refine wpAny_Call_Name_kw (ld_glob I hg hm ?_ hdb)
  refine PySem.W.callWith_K (h₀ := X.base) I.ok.mod.kin M.kp (thn (ha.run pos pins s σ H _ I h) fun us s1 ⟨vs, H1, I1, r, q⟩ => ⟨I1.kIn, ?_⟩) he hpl
  exact run_makeG M F hr hgu hb hd hx I1 r q
theorem pe_makeG0 (M : Mk X.K C f) (F : FnG X.prog X.w X.K X.mg X.base CX k f fd ps sp) (hr : Room (k + 1) X.A) (hgu : X.A.guards = some []) (hg : Gl X x) (hm : X.mg x = some (.ref C)) (hb : Binds X.K fd ps ds) (hd : Vals dvs ds) (hx : Passes CX X E)
    (hdb : (x == ("__debug__" : Str)) = false) : PE X (.Call (.Name x p) [] [] pos) (tMake C sp dvs E tNil) := by
  refine ⟨fun pins s σ H Q I h => ?_⟩
  refine wpAny_Call_Name_kw (ld_glob I hg hm ?_ hdb)
  exact PySem.W.callWith_K0 I.kIn M.kp (run_makeG (us := []) M F hr hgu hb hd hx I .nil h)
end

/-! ### what a def promises about data -/
def XRep (κ : KB) (F H : Hp) (x : DX) (C : Value) (dx : Option Addr) : Prop := C = .ref (He.ga κ.K x.c) ∧
  ((x.ns = [] ∧ dx = none) ∨ ∃ a vs, dx = some a ∧ H a = some (.xd (x.ns.zip vs)) ∧ x.ns.length = x.ds.length ∧ RepL κ F x.ds vs)
def spOf (κ : KB) (sm : Sm) : Sp := fun vs H Q E => ∃ (F : Hp) (ds : List D) (kd : D → Prop) (kx : DX → Prop), Same F H ∧ RepL κ F ds vs ∧ sm ds kd kx ∧
  (∀ d v F' H', kd d → Same H H' → Same F F' → Same F' H' → (∀ a, F a = none → F' a ≠ none → H a = none) → Rep κ F' d v → Q v H') ∧
  ∀ x C dx F' H', kx x → Same H H' → Same F' H' → XRep κ F' H' x C dx → E C dx H'
/-- __init__: the new object's fields -/
def spIn (κ : KB) (c : Str) (sm : Sm) : Sp := fun vs H Q E => ∃ (p dx : Addr) (ws : List V) (F : Hp) (ds : List D) (kd : D → Prop) (kx : DX → Prop), vs = .ref p :: ws ∧ H p = some (.ins (He.ga κ.K c) dx []) ∧ F p = none ∧ Same F H ∧ RepL κ F ds ws ∧ sm ds kd kx ∧
  (∀ ns xs F' H' us dx', kd (.obj c ns xs) → (∀ a o, a ≠ p → H a = some o → H' a = some o) → Same F F' → Same F' H' → F' p = none → (∀ a, F a = none → F' a ≠ none → H a = none) → H' p = some (.ins (He.ga κ.K c) dx' (ns.zip us)) → ns.length = xs.length → RepL κ F' xs us → Q .non H') ∧
  ∀ x C dx F' H', kx x → (∀ a o, a ≠ p → H a = some o → H' a = some o) → Same F' H' → XRep κ F' H' x C dx → E C dx H'

section
variable (κ : KB) (k : Nat) (X : Cx)
def GOk (cb : Bool) (x : Str) : GV → Prop
  | .val d => ∃ v u, X.mg x = some u ∧ RelV v u ∧ ∀ F, Rep κ F d v
  | .fn sm => ∃ a fd ps j, X.mg x = some (.ref a) ∧ PySem.W.keepIn X.K (.ref a) = true ∧ Binds X.K fd ps [] ∧ FnG X.prog X.w X.K X.mg X.base (CXb cb X.prog X.w) j a fd ps (spOf κ sm) ∧ j ≤ k
  | .cls c sm => X.mg x = some (.ref (He.ga κ.K c)) ∧ ∃ fI fd ps j, Mk X.K (He.ga κ.K c) fI ∧ Binds X.K fd ps [] ∧ FnG X.prog X.w X.K X.mg X.base (CXb cb X.prog X.w) j fI fd ps (spIn κ c sm) ∧ j + 1 ≤ k
  | .blt => X.mg x = none
  | .bty n => X.mg x = none ∧ bootBuiltins x = some (.type n) ∧ x ≠ ("__name__" : Str)
def MOk (cb : Bool) (c m : Str) (sm : Sm) : Prop := ∃ f fd ps j, Cls X.K (He.ga κ.K c) ∧ Meth X.K (He.ga κ.K c) m f ∧ Binds X.K fd ps [] ∧ FnG X.prog X.w X.K X.mg X.base (CXb cb X.prog X.w) j f fd ps (spOf κ sm) ∧ j + 2 ≤ k ∧ PySem.W.fnIn X.K f = true
def CMOk (cb : Bool) (c m : Str) (sm : Sm) : Prop := ∃ mc p g fd ps j, ClX.CRead X.K (He.ga κ.K c) mc ∧ ClX.CMet X.K (He.ga κ.K c) mc m p g ∧ Binds X.K fd ps [] ∧ FnG X.prog X.w X.K X.mg X.base (CXb cb X.prog X.w) j g fd ps (spOf κ sm) ∧ j + 2 ≤ k
def tyVal : TyN → Value
  | .inl n => .type n
  | .inr c => .ref (He.ga κ.K c)
/-- isinstance of an instance of the class -/
structure ClsI (K : PySem.W.Frag) (C : Addr) : Prop where
  cl : Cls K C
  ha : PySem.W.findIn K (.ref C) "__class__" = some (some (.builtin "object.__class__"))
  hn : PySem.W.specialIn K (.builtin "object.__class__") "__get__" = some (some (.builtin "getset_descriptor.__get__"))
  htk : PySem.W.takesIn K (.builtin "object.__class__") = some true
  hm : PySem.W.mroIn K C (.type "object") = some true
def FxOk : Fx → Prop
  | .eqc c t => PySem.W.notFirst X.K (He.ga κ.K c) (tyVal κ t) = true ∧ PySem.W.findIn X.K (.ref (He.ga κ.K c)) "__ne__" = some (some (.builtin "object.__ne__")) ∧ PySem.W.subIn X.K (.ref (He.ga κ.K c)) (.type "object") = some true ∧
      ∀ n, t = .inl n → PySem.W.subIn X.K (.ref (He.ga κ.K c)) (.type n) = some false
  | .lend _ => True
  | .exc c f => badName c = false ∧ X.mg c = some (.ref (He.ga κ.K c)) ∧ X.mg "super" = none ∧ PySem.W.subIn X.K (.ref (He.ga κ.K c)) (.type "BaseException") = some true ∧ PySem.W.typeIn X.K (.ref (He.ga κ.K c)) = some (.type "type") ∧ PySem.W.keepIn X.K (.ref (He.ga κ.K c)) = true ∧
      ∃ (E fI cc cda : Addr) (B newId initId : String) (bmB : List Value) (name qual : Str) (params : Arguments) (scope : Scope) (dV kV doc pm : Value) (an : Option Addr) (ct : Value) (sn x : Str) (p0 p1 p2 p3 p4 p5 p6 p7 p8 p9 : Pos),
        SInit X.prog X.K (He.ga κ.K c) E fI cc cda B newId initId bmB name qual params scope dV kV doc pm an ct sn x f p0 p1 p2 p3 p4 p5 p6 p7 p8 p9
  | .xat c f => XfC X.K (He.ga κ.K c) ∧ PySem.W.findIn X.K (.ref (He.ga κ.K c)) f = some none
  | .isx c t b => ExcC X.K (He.ga κ.K c) ∧ PySem.W.kitOne X.K (.ref (He.ga κ.K c)) (tyVal κ t) = some b
  | .exm c c' b => PySem.W.exmOne X.K (.ref (He.ga κ.K c)) (.ref (He.ga κ.K c')) = some b
  | .src => ∀ q : Nat, κ.bx (2 * q + 1) = bxI q
structure TabOk (T : Tab) : Prop where
  hK : X.K = κ.K
  hnd : κ.nd = ndP X.prog X.w
  guards : X.A.guards = some []
  room : Room k X.A
  glb : ∀ x gv, T.g.lookup x = some gv → GOk κ k X T.cold x gv
  mth : ∀ c m sm, T.ms.lookup (c, m) = some sm → MOk κ k X T.cold c m sm
  cmt : ∀ c m sm, T.cm.lookup (c, m) = some sm → CMOk κ k X T.cold c m sm
  fld : ∀ c m, T.fls.contains (c, m) = true → Cls X.K (He.ga κ.K c) ∧ NoAttr X.K (He.ga κ.K c) m
  isa : ∀ t c b, T.isa.lookup (t, c) = some b → PySem.W.kitOne X.K (tyVal κ t) (tyVal κ c) = some b ∧ ∀ c', t = .inr c' → ClsI X.K (He.ga κ.K c')
  fxs : ∀ f, T.fx.contains f = true → FxOk κ X f
structure CtxOk (T : Tab) (B : Hp) (xk : DX → Prop) : Prop extends TabOk κ k X T where
  hN : X.N = T.N
  nd : T.N.Nodup
  nm : X.env.scope.names = T.nm
  knd : X.env.scope.kind = .function
  calm : X.calm = true
  fnc : ∀ x, T.nm.lookup x = some .cell → T.fn x = true → X.fn x = true
  co : T.out = true → T.cold = true
  xs : ∃ W : WX, TakesB T.out X W ∧ ∀ x C dx σ F H, xk x → Same B H → Same F H → XRep κ F H x C dx → W C dx σ H
  pas : PassesOwn (model X.prog X.w) X.A X.env X.xe
  stk : T.stm = true → X.stack = X.env :: X.outer ∧ X.env.frame = some X.env.locals
end
end DL

set_option Elab.async false
set_option linter.all false
set_option maxRecDepth 100000
set_option maxHeartbeats 1000000
/-! DLo: own __len__, __str__, __getitem__, __eq__. -/
namespace DL
open PySem PySem.Spec PyProof.Rows L2

section
variable {X : Cx} {CX : CXT} {k : Nat} {f C : Addr} {fd : FuncData} {ps : List Str} {sp : Sp} {E : XK} {pins : List (Addr × Obj)} {σ : L2.St} {H : Hp} {s : Shared} {Q : VK} {a dx : Addr} {fs : List (Str × V)}
/-- a def run further in -/
theorem run_fnA {A : Around} {us : List Value} {vs : List V} (F : FnG X.prog X.w X.K X.mg X.base CX k f fd ps sp) (hr : Room k A) (hgu : A.guards = some []) (e0 : Env0 X.prog X.w X.K X.mg X.base A X.stack s H) (hb : Binds X.K fd ps []) (hx : Passes CX X E)
    (I : Inv X pins σ H s) (r : Vals vs us) (h : sp vs H Q E) : wpAny (model X.prog X.w) A (call (.ref f) us) (EP X pins σ Q) X.xe s := by
  have hl : us.length = ps.length := by rw [← r.length]; exact F.len _ _ _ _ h
  have b := hb s us I.kIn (by rw [List.append_nil]; exact hl)
  rw [List.append_nil] at b
  refine wpAny_call (codeAny_mono (F.run A X.stack s H ⟨us, []⟩ us vs Q E hr hgu e0 b r h) fun r s' hq => ?_)
  cases r with
  | error e => exact hx pins σ H s e s' I hq
  | ok fl =>
    cases fl with
    | ret u => exact I.after hq
    | next => exact False.elim hq
    | brk => exact False.elim hq
    | cont => exact False.elim hq
theorem inst_at (I : Inv X pins σ H s) (e : H a = some (.ins C dx fs)) : ∃ ox od, PySem.W.InstAt s.heap a ox C od := by
  obtain ⟨mA, O, _⟩ := ins_get I.hok e
  obtain ⟨od, J, _⟩ := O.look
  exact ⟨_, _, J⟩
/-- len(x) -/
theorem own_len (I : Inv X pins σ H s) (e : H a = some (.ins C dx fs)) (m : Meth X.K C "__len__" f) (F : FnG X.prog X.w X.K X.mg X.base CX k f fd ps sp) (hr : Room (k + 1) X.A) (hgu : X.A.guards = some []) (hb : Binds X.K fd ps []) (hx : Passes CX X E)
    (h : sp [.ref a] H (fun v H' => ∃ n : Int, v = .int n ∧ (0 ≤ n ∧ n < 2 ^ 63) ∧ Q (.int n) H') E) : wpAny (model X.prog X.w) X.A (call (.builtin "len") [.ref a]) (EP X pins σ Q) X.xe s := by
  obtain ⟨ox, od, J⟩ := inst_at I e
  obtain ⟨mm, fr⟩ := I.fr
  refine PySem.W.len_K fr I.ok.mod.kin J m.at_ m.fn (wpAny_mono (run_fnA (A := X.A.in1) (us := [.ref a]) (vs := [.ref a]) F hr.in1 hgu I.env0.in1 hb hx I (.cons rfl .nil) h) (fun v s' z => ?_) fun _ _ z => z)
  obtain ⟨v', H', I', rv, n, rfl, hn, q⟩ := z
  obtain ⟨t, rfl⟩ := (show ∃ t, v = Value.int n t from rv)
  exact ⟨hn, .int n, H', I'.tok _, ⟨_, rfl⟩, q⟩
/-- str(x) -/
theorem own_str (I : Inv X pins σ H s) (e : H a = some (.ins C dx fs)) (m : Meth X.K C "__str__" f) (F : FnG X.prog X.w X.K X.mg X.base CX k f fd ps sp) (hr : Room (k + 2) X.A) (hgu : X.A.guards = some []) (hb : Binds X.K fd ps []) (hx : Passes CX X E)
    (h : sp [.ref a] H (fun v H' => ∃ z : Str, v = .str z ∧ Q (.str z) H') E) : wpAny (model X.prog X.w) X.A (call (.type "str") [.ref a]) (EP X pins σ Q) X.xe s := by
  obtain ⟨ox, od, J⟩ := inst_at I e
  have hr2 : Room k X.A.in1.in1 := (show Room (k + 1) X.A.in1 from Room.in1 hr).in1
  refine PySem.W.kso_call hr2.units0 I.kIn J m.at_ m.fn (wpAny_mono (run_fnA (A := X.A.in1.in1) (us := [.ref a]) (vs := [.ref a]) F hr2 hgu I.env0.in1.in1 hb hx I (.cons rfl .nil) h) (fun v s' z => ?_) fun _ _ z => z)
  obtain ⟨v', H', I', rv, z, rfl, q⟩ := z
  obtain ⟨t, rfl⟩ := (show ∃ t, v = Value.str z t from rv)
  exact ⟨.str z, H', I', ⟨_, rfl⟩, q⟩
/-- x[i] -/
theorem own_sub {value slice : Expr} {i : V} {u : Value} (I : Inv X pins σ H s) (e : H a = some (.ins C dx fs)) (m : Meth X.K C "__getitem__" f) (hfn : PySem.W.fnIn X.K f = true) (F : FnG X.prog X.w X.K X.mg X.base CX k f fd ps sp) (hr : Room (k + 1) X.A) (hgu : X.A.guards = some []) (hb : Binds X.K fd ps []) (hx : Passes CX X E)
    (ri : RelV i u) (h : sp [.ref a, i] H Q E) (hsl : subscripted slice true (.ref a) u = runValue (.builtin "lifetime.subscript" ⟨[.ref a, u], []⟩)) : wpAny (model X.prog X.w) X.A (subscriptTail value slice (.ref a) u) (EP X pins σ Q) X.xe s := by
  obtain ⟨ox, od, J⟩ := inst_at I e
  obtain ⟨mm, fr⟩ := I.fr
  exact PySem.W.sub_K fr I.ok.mod.kin J m.at_ hfn m.fn (run_fnA (A := X.A.in1) (us := [.ref a, u]) (vs := [.ref a, i]) F hr.in1 hgu I.env0.in1 hb hx I (.cons rfl (.cons ri .nil)) h) hsl
/-- x == y, the left one's def -/
theorem own_eq {b : V} {u tb : Value} (I : Inv X pins σ H s) (e : H a = some (.ins C dx fs)) (m : Meth X.K C "__eq__" f) (F : FnG X.prog X.w X.K X.mg X.base CX k f fd ps sp) (hr : Room k X.A) (hgu : X.A.guards = some []) (hb : Binds X.K fd ps []) (hx : Passes CX X E)
    (rb : RelV b u) (ty : PySem.W.Looks (model X.prog X.w) s.heap (typeOf u) tb) (hn : PySem.W.notFirst X.K C tb = true) (h : sp [.ref a, b] H (fun v H' => ∃ r : Bool, v = .bl r ∧ Q (.bl r) H') E) :
    wpAny (model X.prog X.w) X.A (richCompare .Eq (.ref a) u) (EP X pins σ Q) X.xe s := by
  obtain ⟨ox, od, J⟩ := inst_at I e
  obtain ⟨mm, fr⟩ := I.fr
  refine PySem.W.cmp_K (op := .Eq) hr.units0 fr I.ok.mod.kin J ty hn m.at_ m.fn (wpAny_mono (run_fnA (A := X.A) (us := [.ref a, u]) (vs := [.ref a, b]) F hr hgu I.env0 hb hx I (.cons rfl (.cons rb .nil)) h) (fun v s' z => ?_) fun _ _ z => z)
  obtain ⟨v', H', I', rv, r, rfl, q⟩ := z
  cases (show v = Value.bool r from rv)
  exact ⟨.bl r, H', I', rfl, q⟩
end
end DL

set_option Elab.async false
set_option linter.all false
set_option maxRecDepth 100000
set_option maxHeartbeats 1000000
/-! DLo2: !=, == from the right. -/
namespace DL
open PySem PySem.Spec PyProof.Rows L2

section
variable {M : Model} {A : Around} {Ex : Value → Shared → Prop} {s : Shared} {K : PySem.W.Frag} {x C : Addr} {ox : Obj} {od : Option Obj}
theorem ifBound_B {id : String} {name : Str} {args : List Value} {Q : Option Value → Shared → Prop} (X : K.In s.heap) (I : PySem.W.InstAt s.heap x ox C od) (hs : PySem.W.findIn K (.ref C) name = some (some (.builtin id)))
    (hbd : ∀ v, bindSpecial (.builtin id) v = pure (.builtin id, [v]))
    (h : wpAny M A (call (.builtin id) (.ref x :: args)) (fun v => Q (some v)) Ex s) : wpAny M A (callSpecialIfBound? (.ref x) name args) Q Ex s := by
  simp only [callSpecialIfBound?, bindSpecialIfBound?]
  refine wpAny_holding (wpAny_bind (wpAny_bind (wpAny_bind (I.type.here ((PySem.W.looks_findIn X hs).here ?_)))))
  simp only [hbd]
  refine wpAny_bind (wpAny_askSetting (wpAny_ite ?_))
  have fin : wpAny M A (call (.builtin id) ([.ref x] ++ args) >>= fun v => pure (some v)) Q Ex s := wpAny_bind (wpAny_mono h (fun v s' h' => wpAny_pure h') fun _ _ h' => h')
  split
  · exact wpAny_bind (wpAny_pure (wpAny_pure fin))
  · exact wpAny_tryCatch (wpAny_bind (wpAny_pure (wpAny_pure fin)))
end
section
variable {prog : Program} {w : World} {A : Around} {Ex : Value → Shared → Prop} {s : Shared} {K : PySem.W.Frag} {x C f : Addr} {ox : Obj} {od : Option Obj}
/-- x != y by the own __eq__ -/
theorem ne_K {b tb : Value} {Q : Value → Shared → Prop} (hu : A.units + 1 < cLine) (X : K.In s.heap) (I : PySem.W.InstAt s.heap x ox C od) (hb : PySem.W.Looks (model prog w) s.heap (typeOf b) tb) (hn : PySem.W.notFirst K C tb = true)
    (hne : PySem.W.findIn K (.ref C) "__ne__" = some (some (.builtin "object.__ne__"))) (hob : PySem.W.subIn K (.ref C) (.type "object") = some true)
    (hs : PySem.W.findIn K (.ref C) "__eq__" = some (some (.ref f))) (hf : PySem.W.isFn K (.ref f) = true)
    (h : wpAny (model prog w) A.in1 (call (.ref f) [.ref x, b]) (fun v s' => ∃ r, v = .bool r ∧ Q (.bool (!r)) s') Ex s) : wpAny (model prog w) A (richCompare .NotEq (.ref x) b) Q Ex s := by
  have one : wpAny (model prog w) A (tryCompare (.ref x) "__ne__" b) (fun r s' => ∃ v, r = some v ∧ Q v s') Ex s := by
    unfold tryCompare
    refine wpAny_bind (ifBound_B X I hne F.cmp_object.ne.bind (wpAny_call (codeAny_call_builtin F.cmp_object.ne.plain F.cmpEntry_ne (PySem.W.check_slot F.cmpKind_ne F.cmpSplit_ne (I.type.andThen (PySem.W.looks_subIn X hob)) (F.cmpArgs_ne _ _) ?_))))
    unfold Builtin.«object.__ne__»
    refine wpAny_bind (wpAny_of_eq (a := ((.ref x : Value), [b])) (by first | rfl | kernel_rfl) ?_)
    refine wpAny_bind (wpAny_cRoomFor hu ?_)
    refine wpAny_bind (PySem.W.ifBound_K X I hs hf (wpAny_mono h (fun v s' hv => ?_) fun _ _ e => e))
    obtain ⟨r, rfl, q⟩ := hv
    refine wpAny_bind (m := truthy (.bool r)) (wpAny_truthy_bool ?_)
    refine wpAny_pure ?_
    first | exact wpAny_pure (a := some (Value.bool (!r))) ⟨_, rfl, q⟩ | exact ⟨_, rfl, wpAny_pure (a := some (Value.bool (!r))) ⟨_, rfl, q⟩⟩
  unfold richCompare
  simp only [oneThing_ref]
  refine wpAny_holding (wpAny_bind (wpAny_cRoomFor (Nat.lt_of_succ_lt hu) ?_))
  refine wpAny_bind (I.type.here (wpAny_bind (hb.here ?_)))
  split
  · rename_i q
    have e : PySem.W.subIn K tb (.ref C) = some false := by
      rcases Bool.or_eq_true_iff.mp hn with e | e
      · rw [beq_iff_eq.mp e] at q; simp at q
      · exact beq_iff_eq.mp e
    refine wpAny_bind ((PySem.W.looks_subIn X e).here ?_)
    simp only [Bool.false_eq_true, if_false]
    refine wpAny_bind (wpAny_mono one (fun r s' z => ?_) fun _ _ e => e)
    obtain ⟨v, rfl, hq⟩ := z
    exact wpAny_pure hq
  · refine wpAny_bind (wpAny_pure ?_)
    simp only [Bool.false_eq_true, if_false]
    refine wpAny_bind (wpAny_mono one (fun r s' z => ?_) fun _ _ e => e)
    obtain ⟨v, rfl, hq⟩ := z
    exact wpAny_pure hq
/-- the other's own == says nothing -/
def Declines (prog : Program) (w : World) (A : Around) (s : Shared) (u : Value) (x : Addr) : Prop := ∀ (Q : Option Value → Shared → Prop) (Ex : Value → Shared → Prop), Q none s → wpAny (model prog w) A (tryCompare u "__eq__" (.ref x)) Q Ex s
/-- u == x, u of a built-in type -/
theorem eqR_K {u : Value} {T : String} {Q : Value → Shared → Prop} (hu : A.units < cLine) (X : K.In s.heap) (I : PySem.W.InstAt s.heap x ox C od) (hb : s.TypeIs u T) (hst : PySem.W.subIn K (.ref C) (.type T) = some false) (hone : oneThing? .Eq u (.ref x) = none)
    (hd : Declines prog w A s u x) (hs : PySem.W.findIn K (.ref C) "__eq__" = some (some (.ref f))) (hf : PySem.W.isFn K (.ref f) = true)
    (h : wpAny (model prog w) A (call (.ref f) [.ref x, u]) (PySem.W.CmpBack Q) Ex s) : wpAny (model prog w) A (richCompare .Eq u (.ref x)) Q Ex s := by
  have one : wpAny (model prog w) A (tryCompare (.ref x) "__eq__" u) (fun r s' => ∃ v, r = some v ∧ Q v s') Ex s := by
    unfold tryCompare
    refine wpAny_bind (PySem.W.ifBound_K X I hs hf (wpAny_mono h (fun v s' hv => ?_) fun _ _ e => e))
    cases v <;> first | exact hv.elim | exact wpAny_pure ⟨_, rfl, hv⟩
  unfold richCompare
  rw [hone]
  refine wpAny_holding (wpAny_bind (wpAny_cRoomFor hu ?_))
  refine wpAny_bind (wpAny_typeOf hb (wpAny_bind (I.type.here ?_)))
  rw [if_pos (show (Value.type T != Value.ref C) = true from rfl)]
  refine wpAny_bind ((PySem.W.looks_subIn X hst).here ?_)
  simp only [Bool.false_eq_true, if_false]
  refine wpAny_bind (hd _ _ ?_)
  simp only [Bool.not_false, if_true]
  refine wpAny_bind (wpAny_mono one (fun r s' z => ?_) fun _ _ e => e)
  obtain ⟨v, rfl, hq⟩ := z
  exact wpAny_pure hq
theorem dec_none : Declines prog w A s .none x := fun Q Ex hq => by
  refine wpAny_tryCompare_declines (T := "NoneType") (id := "NoneType.__eq__") rfl PySem.F.slot_NoneType_eq (GQ.call_here PySem.F.slot_NoneType_eq rfl PySem.F.entry_NoneType_eq (PySem.F.args_NoneType_eq_2 _ _) ?_)
  unfold Builtin.«NoneType.__eq__»
  refine wpAny_bind (wpAny_of_eq (a := ((.none : Value), [Value.ref x])) (by first | rfl | kernel_rfl) ?_)
  refine wpAny_pure ?_
  exact ⟨rfl, hq⟩
theorem dec_str {z : Str} {t : Tok} (I : PySem.W.InstAt s.heap x ox C od) (hp : ox.data = .plain) : Declines prog w A s (.str z t) x := fun Q Ex hq => by
  refine wpAny_tryCompare_declines (T := "str") (id := "str.__eq__") (typeIs_str _ _ _) PySem.F.slot_str_eq (GQ.call_here PySem.F.slot_str_eq (typeIs_str _ _ _) PySem.F.entry_str_eq (PySem.F.args_str_eq_2 _ _) ?_)
  unfold Builtin.«str.__eq__» Builtin.Str.strCompare
  refine wpAny_bind (wpAny_of_eq (a := ((.str z t : Value), z, [Value.ref x])) (by first | rfl | kernel_rfl) ?_)
  refine wpAny_bind (m := asStr? (.ref x)) ?_
  unfold asStr?
  refine wpAny_bind (wpAny_load I.at_ ?_)
  rw [hp]
  refine wpAny_pure ?_
  first | exact ⟨rfl, hq⟩ | exact wpAny_pure ⟨rfl, hq⟩ | exact wpAny_bind (wpAny_rule (wpAny_pure ⟨rfl, hq⟩))
theorem dec_tup {p : Addr} (X : K.In s.heap) (I : PySem.W.InstAt s.heap x ox C od) (hT : s.TypeIs (.ref p) "tuple") (hst : PySem.W.subIn K (.ref C) (.type "tuple") = some false) : Declines prog w A s (.ref p) x := fun Q Ex hq => by
  refine wpAny_tryCompare_declines (T := "tuple") (id := "tuple.__eq__") hT PySem.F.slot_tuple_eq (GQ.call_here PySem.F.slot_tuple_eq hT PySem.F.entry_tuple_eq (PySem.F.args_tuple_eq_2 _ _) ?_)
  unfold Builtin.«tuple.__eq__»
  show wpAny _ _ (slotArgs "__eq__" 1 _ >>= _) _ _ _
  refine wpAny_bind (wpAny_of_eq (a := ((.ref p : Value), [Value.ref x])) (by first | rfl | kernel_rfl) ?_)
  have L : PySem.W.Looks (model prog w) s.heap (isInstance (.ref x) (.type "tuple")) false := I.type.andThen (PySem.W.looks_subIn X hst)
  refine wpAny_bind (L.here ?_)
  refine wpAny_pure ?_
  exact ⟨rfl, hq⟩
end
end DL

set_option Elab.async false
set_option linter.all false
set_option maxRecDepth 100000
set_option maxHeartbeats 1000000
/-! DLo3: own defs for operators, on data. -/
namespace DL
open PySem PySem.Spec PyProof.Rows L2

section
variable {κ : KB} {k : Nat} {X : Cx} {T : Tab} {B : Hp} {xk : DX → Prop} {n : Nat}
/-! ### the defs of the text -/
/-- what is wanted of an exception out of a callee -/
def xOut (κ : KB) (B : Hp) (xk : DX → Prop) : XK := fun C dx H' => ∃ x F', xk x ∧ Same B H' ∧ Same F' H' ∧ XRep κ F' H' x C dx
theorem CtxOk.passes (C : CtxOk κ k X T B xk) : Passes (CXb T.cold X.prog X.w) X (xOut κ B xk) := by
  obtain ⟨W, tk, hW⟩ := C.xs
  have hh : ∀ cls d σ H, xOut κ B xk cls d H → W cls d σ H := fun cls d σ H ⟨x, F', h1, h2, h3, h4⟩ => hW x cls d σ F' H h1 h2 h3 h4
  cases ho : T.out with
  | true =>
    rw [ho] at tk
    rw [C.co ho]
    exact L2N.passes_call tk hh
  | false =>
    rw [ho] at tk
    exact fun pins σ H s e s' I c => L2.passes_call tk hh pins σ H s e s' I c.imp
theorem sp_call {sm : Sm} {F H F1 H1 : Hp} {σ : L2.St} {ρ ρ1 : Env'} {ds : List D} {vs : List V} {kd : D → Prop} {Q : VK} (h : sm ds kd xk) (p : Post κ B F H σ ρ F1 H1 ρ1) (r : RepL κ F1 ds vs)
    (hq : ∀ d v F' H', kd d → Post κ B F H σ ρ F' H' ρ1 → Rep κ F' d v → Q v H') : spOf κ sm (vs ++ []) H1 Q (xOut κ B xk) := by
  rw [List.append_nil]
  exact ⟨F1, ds, kd, xk, p.env.sub, r, h, fun d v F' H' hkd s1 s2 s3 nw rp => hq d v F' H' hkd (p.trans (Post.grow p.env s1 s2 s3 nw)) rp, fun x Cv dx F' H' hkx s1 s3 xr => ⟨x, F', hkx, p.env.bas.trans s1, s3, xr⟩⟩

section
variable {F H F0 H0 : Hp} {σ : L2.St} {ρ0 ρ : Env'} {pins : List (Addr × Obj)} {s : Shared} {Q : VK}
theorem ty_looks (hK : X.K = κ.K) (I : Inv X pins σ H s) {d : D} {v : V} {u : Value} {t : TyN} (rv : RelV v u) (h : Rep κ F d v) (sF : Same F H) (e : tyN d = some t) : PySem.W.Looks (model X.prog X.w) s.heap (typeOf u) (tyVal κ t) := by
  cases d with
  | non => cases h; cases e; cases rv; exact PySem.W.Looks.of_pure rfl
  | bl b => cases h; cases e; cases rv; exact PySem.W.Looks.of_pure rfl
  | int i => cases h; cases e; obtain ⟨t, rfl⟩ := rv; exact PySem.W.Looks.of_pure rfl
  | str z => cases h; cases e; obtain ⟨t, rfl⟩ := rv; exact PySem.W.Looks.of_pure rfl
  | lst xs =>
    unfold Rep at h
    obtain ⟨p, vs, rfl, h1, r⟩ := h
    cases e; cases rv
    obtain ⟨its, _, ⟨o, n, ho, hc, _⟩, _⟩ := I.list (SqL.of (sF _ _ h1))
    have hc : o.cls = .type "list" := hc
    show PySem.W.Looks _ _ _ (Value.type "list")
    exact hc ▸ (PySem.W.Looks.ld ho).andThen .now
  | tup xs =>
    unfold Rep at h
    obtain ⟨p, vs, rfl, h1, r⟩ := h
    cases e; cases rv
    obtain ⟨its, _, ⟨o, ho, hc, _⟩, _⟩ := I.tuple (by rw [hK]; exact (same_t sF h1).sq)
    show PySem.W.Looks _ _ _ (Value.type "tuple")
    exact hc ▸ (PySem.W.Looks.ld ho).andThen .now
  | obj c ns xs =>
    unfold Rep at h
    obtain ⟨p, dx, vs, rfl, h1, _⟩ := h
    cases e; cases rv
    obtain ⟨ox, od, J⟩ := inst_at I (sF _ _ h1)
    exact J.type
  | _ => cases e
theorem sp_bk {sm : Sm} {ds : List D} {vs : List V} {kb : Bool → Prop} (h : sm ds (dBk kb) xk) (p : Post κ B F0 H0 σ ρ0 F H ρ) (r : RepL κ F ds vs) (hq : ∀ b F' H', kb b → Post κ B F0 H0 σ ρ0 F' H' ρ → Q (.bl b) H') :
    spOf κ sm vs H (fun v H' => ∃ r : Bool, v = .bl r ∧ Q (.bl r) H') (xOut κ B xk) := by
  have := sp_call (Q := fun v H' => ∃ r : Bool, v = .bl r ∧ Q (.bl r) H') h p r fun d v F' H' hkd p' rp => by
    cases d with
    | bl b => cases rp; exact ⟨b, rfl, hq b F' H' hkd p'⟩
    | _ => exact hkd.elim
  rwa [List.append_nil] at this
/-- x == y -/
theorem eqL_ok (C : CtxOk κ k X T B xk) (I : Inv X pins σ H s) {c : Str} {ns : List Str} {xs : List D} {ra rb : R} {v w : V} {u u' : Value} {kb : Bool → Prop} (rv : RelV v u) (rw' : RelV w u') (o1 : Rep κ F (.obj c ns xs) v) (o2 : ROk κ B H0 F H σ ρ rb w)
    (p : Post κ B F0 H0 σ ρ0 F H ρ) (h : dEqL T xk c (.obj c ns xs) rb kb) (hq : ∀ b F' H', kb b → Post κ B F0 H0 σ ρ0 F' H' ρ → Q (.bl b) H') : wpAny (model X.prog X.w) X.A (richCompare .Eq u u') (EP X pins σ Q) X.xe s := by
  unfold dEqL at h
  split at h
  · rename_i y
    split at h
    · rename_i sm t hs ht
      obtain ⟨hfx, h⟩ := h
      obtain ⟨f, fd, ps, j, c1, c2, c3, c4, c5, c6⟩ := C.mth _ _ _ hs
      obtain ⟨f1, f2, f3, f4⟩ := C.fxs _ hfx
      have o2 : Rep κ F y w := o2
      have ty := ty_looks C.hK I rw' o2 p.env.sub ht
      have o1' := o1
      unfold Rep at o1
      obtain ⟨a, dx, vs, rfl, ha, _⟩ := o1
      cases rv
      exact own_eq I (p.env.sub _ _ ha) c2 c4 (C.room.mono (by omega)) C.guards c3 C.passes rw' ty f1 (sp_bk h p (.cons o1' (.cons o2 .nil)) hq)
    · exact h.elim
  · exact h.elim
/-- x != y -/
theorem neL_ok (C : CtxOk κ k X T B xk) (I : Inv X pins σ H s) {c : Str} {ns : List Str} {xs : List D} {ra rb : R} {v w : V} {u u' : Value} {kb : Bool → Prop} (rv : RelV v u) (rw' : RelV w u') (o1 : Rep κ F (.obj c ns xs) v) (o2 : ROk κ B H0 F H σ ρ rb w)
    (p : Post κ B F0 H0 σ ρ0 F H ρ) (h : dEqL T xk c (.obj c ns xs) rb fun b => kb (!b)) (hq : ∀ b F' H', kb b → Post κ B F0 H0 σ ρ0 F' H' ρ → Q (.bl b) H') : wpAny (model X.prog X.w) X.A (richCompare .NotEq u u') (EP X pins σ Q) X.xe s := by
  unfold dEqL at h
  split at h
  · rename_i y
    split at h
    · rename_i sm t hs ht
      obtain ⟨hfx, h⟩ := h
      obtain ⟨f, fd, ps, j, c1, c2, c3, c4, c5, c6⟩ := C.mth _ _ _ hs
      obtain ⟨f1, f2, f3, f4⟩ := C.fxs _ hfx
      have o2 : Rep κ F y w := o2
      have ty := ty_looks C.hK I rw' o2 p.env.sub ht
      have o1' := o1
      unfold Rep at o1
      obtain ⟨a, dx, vs, rfl, ha, _⟩ := o1
      cases rv
      obtain ⟨ox, od, J⟩ := inst_at I (p.env.sub _ _ ha)
      have hr : Room (j + 1) X.A := C.room.mono (by omega)
      have hu : X.A.units + 1 < cLine := by have := C.room.units; omega
      refine ne_K hu I.kIn J ty f1 f2 f3 c2.at_ c2.fn (wpAny_mono (run_fnA (A := X.A.in1) (us := [.ref a, u']) (vs := [.ref a, w]) c4 hr.in1 C.guards I.env0.in1 c3 C.passes I (.cons rfl (.cons rw' .nil)) (sp_bk (Q := fun z H' => ∃ r : Bool, z = .bl r ∧ Q (.bl (!r)) H') h p (.cons o1' (.cons o2 .nil)) fun b F' H' hb p' => ⟨b, rfl, hq _ F' H' hb p'⟩)) (fun v s' z => ?_) fun _ _ z => z)
      obtain ⟨v', H', I', rv, r, rfl, r', e, q⟩ := z
      cases e
      cases (show v = Value.bool r from rv)
      exact ⟨r, rfl, .bl (!r), H', I', rfl, q⟩
    · exact h.elim
  · exact h.elim
theorem decl_of {A : Around} (hK : X.K = κ.K) (I : Inv X pins σ H s) {d : D} {v : V} {u : Value} {t : TyN} {a C dx : Addr} {fs : List (Str × V)} (rv : RelV v u) (h : Rep κ F d v) (sF : Same F H) (e : declK d = some t) (ha : H a = some (.ins C dx fs))
    (hst : ∀ n, t = .inl n → PySem.W.subIn X.K (.ref C) (.type n) = some false) :
    ∃ T, s.TypeIs u T ∧ PySem.W.subIn X.K (.ref C) (.type T) = some false ∧ oneThing? .Eq u (.ref a) = none ∧ (u == .ref a) = false ∧ (∀ x y, u ≠ .float x y) ∧ Declines X.prog X.w A s u a := by
  obtain ⟨mA, O, _⟩ := ins_get I.hok ha
  obtain ⟨od, J, _⟩ := O.look
  cases d with
  | non => cases h; cases e; cases rv; exact ⟨"NoneType", rfl, hst _ rfl, rfl, rfl, (fun _ _ z => nomatch z), dec_none⟩
  | str z => cases h; cases e; obtain ⟨t, rfl⟩ := rv; exact ⟨"str", typeIs_str _ _ _, hst _ rfl, rfl, rfl, (fun _ _ z => nomatch z), dec_str J rfl⟩
  | tup xs =>
    unfold Rep at h
    obtain ⟨p, vs, rfl, h1, r⟩ := h
    cases e; cases rv
    obtain ⟨its, _, ⟨o, ho, hc, n, hd⟩, _⟩ := I.tuple (by rw [hK]; exact (same_t sF h1).sq)
    have ne : p ≠ a := fun z => by
      subst z
      rw [J.at_] at ho
      cases ho
      cases hc
    refine ⟨"tuple", ⟨o, ho, hc⟩, hst _ rfl, rfl, ?_, (fun _ _ z => nomatch z), dec_tup I.kIn J ⟨o, ho, hc⟩ (hst _ rfl)⟩
    exact Bool.eq_false_iff.mpr fun q => ne (by have := eq_of_beq q; injection this)
  | _ => cases e
/-- y == x, by x's def -/
theorem eqR_ok (C : CtxOk κ k X T B xk) (I : Inv X pins σ H s) {c : Str} {ns : List Str} {xs : List D} {x : D} {v w : V} {u u' : Value} {kb : Bool → Prop} {A : Around} {sm : Sm} {t : TyN} (rv : RelV v u) (rw' : RelV w u') (o1 : Rep κ F (.obj c ns xs) v) (o2 : Rep κ F x w)
    (hA : A = X.A ∨ A = X.A.in1) (hs : T.ms.lookup (c, ("__eq__" : Str)) = some sm) (ht : declK x = some t) (hfx : T.fx.contains (.eqc c t) = true)
    (p : Post κ B F0 H0 σ ρ0 F H ρ) (h : sm [.obj c ns xs, x] (dBk kb) xk) (hq : ∀ b F' H', kb b → Post κ B F0 H0 σ ρ0 F' H' ρ → Q (.bl b) H') : wpAny (model X.prog X.w) A (richCompare .Eq u' u) (fun z s' => ∃ r H' , z = .bool r ∧ Inv X pins σ H' s' ∧ Q (.bl r) H') X.xe s := by
  obtain ⟨f, fd, ps, j, c1, c2, c3, c4, c5, c6⟩ := C.mth _ _ _ hs
  obtain ⟨f1, f2, f3, f4⟩ := C.fxs _ hfx
  have o1' := o1
  unfold Rep at o1
  obtain ⟨a, dx, vs, rfl, ha, _⟩ := o1
  cases rv
  have hH := p.env.sub _ _ ha
  obtain ⟨Tn, h1, h2, h3, h4, _, h5⟩ := decl_of (A := A) C.hK I rw' o2 p.env.sub ht hH f4
  obtain ⟨ox, od, J⟩ := inst_at I hH
  have hr : Room (j + 1) X.A := C.room.mono (by omega)
  have rA : Room j A ∧ A.guards = some [] ∧ Env0 X.prog X.w X.K X.mg X.base A X.stack s H := by
    rcases hA with rfl | rfl
    · exact ⟨hr.mono (by omega), C.guards, I.env0⟩
    · exact ⟨hr.in1, C.guards, I.env0.in1⟩
  refine eqR_K rA.1.units0 I.kIn J h1 h2 h3 h5 c2.at_ c2.fn (wpAny_mono (run_fnA (A := A) (us := [.ref a, u']) (vs := [.ref a, w]) c4 rA.1 rA.2.1 rA.2.2 c3 C.passes I (.cons rfl (.cons rw' .nil)) (sp_bk (Q := Q) h p (.cons o1' (.cons o2 .nil)) hq)) (fun v s' z => ?_) fun _ _ z => z)
  obtain ⟨v', H', I', rv, r, rfl, q⟩ := z
  cases (show v = Value.bool r from rv)
  exact ⟨r, H', rfl, I', q⟩
theorem eqBool_of {A : Around} {E : Value → Shared → Prop} {a : Addr} {u : Value} {Qb : Bool → Shared → Prop} (hne : (u == .ref a) = false) (hfl : ∀ x y, u ≠ .float x y)
    (h : wpAny (model X.prog X.w) A (richCompare .Eq u (.ref a)) (fun v s' => ∃ r, v = .bool r ∧ Qb r s') E s) : wpAny (model X.prog X.w) A (eqBool u (.ref a)) Qb E s := by
  unfold eqBool
  refine wpAny_holding ?_
  rw [if_neg (by rw [hne]; exact Bool.false_ne_true)]
  have fin : wpAny (model X.prog X.w) A (richCompare .Eq u (.ref a) >>= truthOfDropped) Qb E s := by
    refine wpAny_bind (wpAny_mono h (fun v s' hv => ?_) fun _ _ x => x)
    obtain ⟨r, rfl, q⟩ := hv
    exact wpAny_truthy_bool q
  cases u <;> first | exact fin | exact absurd rfl (hfl _ _)
/-- x in (..) -/
theorem inL_ok (C : CtxOk κ k X T B xk) (I : Inv X pins σ H s) {c : Str} {ns : List Str} {xs : List D} {rb : R} {v w : V} {u u' : Value} {kb : Bool → Prop} (rv : RelV v u) (rw' : RelV w u') (o1 : Rep κ F (.obj c ns xs) v) (o2 : ROk κ B H0 F H σ ρ rb w)
    (p : Post κ B F0 H0 σ ρ0 F H ρ) (h : dInL T xk c (.obj c ns xs) rb kb) (hq : ∀ b F' H', kb b → Post κ B F0 H0 σ ρ0 F' H' ρ → Q (.bl b) H') : wpAny (model X.prog X.w) X.A (compareOp .In u u') (EP X pins σ Q) X.xe s := by
  unfold dInL at h
  split at h
  · rename_i ds
    split at h
    · rename_i sm hs
      obtain ⟨hal, h⟩ := h
      have o2 : Rep κ F (.tup ds) w := o2
      unfold Rep at o2
      obtain ⟨t, ws, rfl, ht, rl⟩ := o2
      cases rw'
      obtain ⟨its, vit, tup, _⟩ := I.tuple (by rw [C.hK]; exact (same_t p.env.sub ht).sq)
      have o1' := o1
      unfold Rep at o1
      obtain ⟨a, dx, vs, rfl, ha, _⟩ := o1
      cases rv
      show wpAny _ _ (do return Value.bool (← contains (.ref t) (.ref a))) _ _ s
      refine wpAny_bind (m := contains (.ref t) (.ref a)) ?_
      unfold contains
      refine wpAny_holding ?_
      refine wpAny_bind (wpAny_specialOf tup.typeIs PyProof.Rows.slot_tuple_contains.lookup ?_)
      rw [if_neg (by decide)]
      refine wpAny_bind (wpAny_callSpecialUnlessNone?_slot (name := Str.ofString "__contains__") tup.typeIs PyProof.Rows.slot_tuple_contains
        (wpAny_call_entry PyProof.Rows.slot_tuple_contains tup.typeIs PyProof.Rows.entry_tuple_contains ?_ (PyProof.Rows.args_tuple_contains _ _)))
      show wpAny _ _ (Builtin.Tuple.tupleItemsOf (.ref t) >>= _) _ _ s
      refine wpAny_bind (tupleItemsOf_ tup ?_)
      refine wpAny_bind (forIn_array_ _ (fun rest b s' => b.1 = none ∧ ∃ (F' H' : Hp) (ds' : List D) (vs' : List V), Inv X pins σ H' s' ∧ Post κ B F0 H0 σ ρ0 F' H' ρ ∧ Rep κ F' (.obj c ns xs) (.ref a) ∧ RepL κ F' ds' vs' ∧ Vals vs' rest ∧ allDecl T c ds' = true ∧ dInO sm xk (.obj c ns xs) ds' kb) _ ?_ ?_ its.toArray _
        ⟨rfl, F, H, ds, ws, I, p, o1', rl, by simpa using vit, hal, h⟩)
      · rintro y rest b s' ⟨hb, F', H', ds', vs', I', p', ob, rl', vv, hal', h'⟩
        cases vv with
        | @cons w1 _ ws' _ rw1 vv' =>
          cases ds' with
          | nil => cases rl'.nil_inv
          | cons d ds' =>
            obtain ⟨w2, r2, e2, rd, rl2⟩ := rl'.cons_inv
            cases e2
            unfold allDecl at hal'
            rw [Bool.and_eq_true] at hal'
            obtain ⟨hd, hal2⟩ := hal'
            cases ht : declK d with
            | none => rw [ht] at hd; cases hd
            | some tt =>
              rw [ht] at hd
              unfold dInO at h'
              have ob' := ob
              unfold Rep at ob'
              obtain ⟨a2, dx2, vs2, ea, ha2, _⟩ := ob'
              cases ea
              obtain ⟨f1, f2, f3, f4⟩ := C.fxs _ hd
              obtain ⟨Tn, _, _, _, h4, h5, _⟩ := decl_of (A := X.A.in1) C.hK I' rw1 rd p'.env.sub ht (p'.env.sub _ _ ha2) f4
              refine wpAny_bind (eqBool_of h4 h5 (wpAny_mono (eqR_ok (Q := fun z H2 => ∃ q F2, z = .bl q ∧ Post κ B F' H' σ ρ F2 H2 ρ ∧ if q = true then kb true else dInO sm xk (.obj c ns xs) ds' kb) C I' (v := .ref a) (show RelV (V.ref a) (Value.ref a) from rfl) rw1 ob rd (.inr rfl) hs ht hd (Post.refl p'.env) h' fun b F2 H2 hb p2 => ⟨b, F2, rfl, p2, hb⟩) (fun z s2 hz => ?_) fun _ _ z => z))
              obtain ⟨q, H2, rfl, I2, q', F2, eq, p2, hb2⟩ := hz
              cases eq
              refine ⟨q, rfl, ?_⟩
              cases q with
              | true => exact wpAny_bind (wpAny_pure (wpAny_pure (wpAny_pure ⟨_, rfl, wpAny_truthy_bool (wpAny_pure ⟨.bl true, H2, I2, rfl, hq true F2 H2 hb2 (p'.trans p2)⟩)⟩)))
              | false => exact wpAny_pure ⟨rfl, F2, H2, ds', _, I2, p'.trans p2, ob.mono p2.exF, rl2.mono p2.exF, vv', hal2, hb2⟩
      · rintro ⟨b1, b2⟩ s' ⟨hb, F', H', ds', vs', I', p', ob, rl', vv, hal', h'⟩
        cases vv
        cases ds' with
        | cons d ds' => obtain ⟨_, _, e, _⟩ := rl'.cons_inv; cases e
        | nil =>
          simp only at hb
          subst hb
          exact wpAny_pure ⟨_, rfl, wpAny_truthy_bool (wpAny_pure ⟨.bl false, H', I', rfl, hq false F' H' h' p'⟩)⟩
    · exact h.elim
  · exact h.elim
end
end
end DL

set_option Elab.async false
set_option linter.all false
set_option maxRecDepth 100000
set_option maxHeartbeats 1000000
/-! DL6: the interpreter on expressions is right (1). -/
namespace DL
open PySem PySem.Spec PyProof.Rows L2

section
variable {κ : KB} {k : Nat} {X : Cx} {T : Tab} {B : Hp} {xk : DX → Prop} {f : Expr → Env' → KR → Prop} {t : Expr → Env' → (Bool → Env' → Prop) → Prop} {n : Nat}

theorem slotOf_get {N : List Str} {x : Str} {i : Nat} (h : slotOf N x = some i) : N[i]? = some x := by
  unfold slotOf at h
  obtain ⟨h1, h2, _⟩ := List.findIdx?_eq_some_iff_getElem.mp h
  rw [List.getElem?_eq_getElem h1]
  exact congrArg some (beq_iff_eq.mp h2)
theorem bad_inv {x : Str} (h : badName x = false) : (x == ("__debug__" : Str)) = false ∧ (x == ("__classdict__" : Str)) = false := by
  unfold badName at h
  exact Bool.or_eq_false_iff.mp h

theorem c_const {c : Const} {j : Nat} {pos : Pos} : PE X (.Constant c j pos) (tE κ B (dE (n + 1) T xk) (.Constant c j pos)) := by
  cases c with
  | none => exact PE.imp pe_non fun σ H Q ⟨F, ρ, k, en, hd, hq⟩ => hq _ _ _ F H hd (.refl en) rfl
  | bool b => exact PE.imp pe_bl fun σ H Q ⟨F, ρ, k, en, hd, hq⟩ => hq _ _ _ F H hd (.refl en) rfl
  | int i => exact PE.imp pe_int fun σ H Q ⟨F, ρ, k, en, hd, hq⟩ => hq _ _ _ F H hd (.refl en) rfl
  | str x => exact PE.imp pe_str fun σ H Q ⟨F, ρ, k, en, hd, hq⟩ => hq _ _ _ F H hd (.refl en) rfl
  | _ => exact PE.no fun σ H Q ⟨F, ρ, k, en, hd, hq⟩ => hd

theorem c_slot (C : CtxOk κ k X T B xk) {x : Str} {pos : Pos} {i : Nat} (hv : Vis X.env.scope x) (hb : badName x = false) (hi : slotOf T.N x = some i) : PE X (.Name x pos) (tE κ B (fun _ ρ k => dSlot ρ k i) (.Name x pos)) := by
  refine PE.imp (pe_var (i := i) (by rw [C.hN]; exact slotOf_get hi) hv (bad_inv hb).1 (bad_inv hb).2) fun σ H Q ⟨F, ρ, k, en, hd, hq⟩ => ?_
  have hd : dSlot ρ k i := hd
  unfold dSlot at hd
  split at hd
  · rename_i d e
    obtain ⟨v, a, b⟩ := en.fr i d e
    exact ⟨v, a, hq _ _ _ F H hd (.refl en) b⟩
  · rename_i d e
    obtain ⟨p, a, b⟩ := en.ow i d e
    exact ⟨_, a, hq _ _ _ F H hd (.refl en) ⟨⟨d, e⟩, a⟩⟩
  · exact hd.elim
theorem c_name (C : CtxOk κ k X T B xk) {x : Str} {pos : Pos} : PE X (.Name x pos) (tE κ B (dE (n + 1) T xk) (.Name x pos)) := by
  by_cases hb : badName x = false
  · have sl : ∀ k0, (k0 = .local ∨ k0 = .cell ∨ k0 = .free) → T.nm.lookup x = some k0 → (∀ ρ k, dE (n + 1) T xk (.Name x pos) ρ k → match slotOf T.N x with | some i => dSlot ρ k i | none => False) → PE X (.Name x pos) (tE κ B (dE (n + 1) T xk) (.Name x pos)) := fun k0 hk0 hl hr => by
      have hv : Vis X.env.scope x := by
        unfold Vis
        rw [C.nm, hl]
        rcases hk0 with rfl | rfl | rfl
        · exact .inl rfl
        · exact .inr (.inl rfl)
        · exact .inr (.inr rfl)
      cases hi : slotOf T.N x with
      | none => exact PE.no fun σ H Q ⟨F, ρ, k, en, hd, hq⟩ => by have := hr ρ k hd; rw [hi] at this; exact this
      | some i => exact PE.imp (c_slot C hv hb hi) fun σ H Q ⟨F, ρ, k, en, hd, hq⟩ => ⟨F, ρ, k, en, by have := hr ρ k hd; rw [hi] at this; exact this, hq⟩
    cases hl : T.nm.lookup x with
    | none => exact PE.no fun σ H Q ⟨F, ρ, k, en, hd, hq⟩ => by have hd := (show dName T x ρ k from hd).2; rw [hl] at hd; exact hd
    | some k0 =>
      cases k0 with
      | «local» => exact sl .local (.inl rfl) hl fun ρ k hd => by have hd := (show dName T x ρ k from hd).2; rw [hl] at hd; exact hd
      | cell => exact sl .cell (.inr (.inl rfl)) hl fun ρ k hd => by have hd := (show dName T x ρ k from hd).2; rw [hl] at hd; exact hd
      | free => exact sl .free (.inr (.inr rfl)) hl fun ρ k hd => by have hd := (show dName T x ρ k from hd).2; rw [hl] at hd; exact hd
      | globalExplicit => exact PE.no fun σ H Q ⟨F, ρ, k, en, hd, hq⟩ => by have hd := (show dName T x ρ k from hd).2; rw [hl] at hd; exact hd
      | globalImplicit =>
        have hg : Gl X x := by
          show X.env.scope.names.lookup x = _
          rw [C.nm]; exact hl
        have hu : ∀ ρ k, dE (n + 1) T xk (.Name x pos) ρ k → dGlob (T.g.lookup x) ρ k := fun ρ k hd => by have hd := (show dName T x ρ k from hd).2; rw [hl] at hd; exact hd
        cases hgv : T.g.lookup x with
        | none => exact PE.no fun σ H Q ⟨F, ρ, k, en, hd, hq⟩ => by have := hu ρ k hd; rw [hgv] at this; exact this
        | some gv =>
          have ok := C.glb x gv hgv
          rw [hgv] at hu
          cases gv with
          | val d =>
            obtain ⟨v, u, h1, h2, h3⟩ := ok
            exact PE.imp (pe_glob hg h1 h2 (bad_inv hb).1) fun σ H Q ⟨F, ρ, k, en, hd, hq⟩ => hq _ _ _ F H (hu ρ k hd) (.refl en) (h3 F)
          | fn sm => exact PE.no fun σ H Q ⟨F, ρ, k, en, hd, hq⟩ => hu ρ k hd
          | cls c sm =>
            exact PE.imp (pe_glob hg ok.1 (v := .ref _) rfl (bad_inv hb).1) fun σ H Q ⟨F, ρ, k, en, hd, hq⟩ => hq _ _ _ F H (hu ρ k hd) (.refl en) rfl
          | blt => exact PE.no fun σ H Q ⟨F, ρ, k, en, hd, hq⟩ => hu ρ k hd
          | bty ty =>
            exact PE.imp (pe_bltn hg ok.1 ok.2.1 (v := .ty ty) rfl ok.2.2 (bad_inv hb).1) fun σ H Q ⟨F, ρ, k, en, hd, hq⟩ => hq _ _ _ F H (hu ρ k hd) (.refl en) rfl
  · exact PE.no fun σ H Q ⟨F, ρ, k, en, hd, hq⟩ => hb (show dName T x ρ k from hd).1

/-! ### operators -/
theorem pe_opW {a b : Expr} {ta tb : TE} {op : Operator} {pos : Pos} (ha : PE X a ta) (hb : PE X b tb) : PE X (.BinOp a op b pos) (fun σ H Q => ta σ H fun x H1 => tb σ H1 fun y H2 =>
    ∀ pins s v u, Inv X pins σ H2 s → RelV x v → RelV y u → wpAny (model X.prog X.w) X.A (binaryOp op v u) (EP X pins σ Q) X.xe s) :=
  ⟨fun pins s σ H Q I h => wpAny_BinOp (bin ha hb I h fun v u s2 x y H2 I2 rx ry q => q pins s2 v u I2 rx ry)⟩
theorem c_bin (C : CtxOk κ k X T B xk) (hf : ∀ e, PE X e (tE κ B (dE n T xk) e)) {a b : Expr} {op : Operator} {pos : Pos} : PE X (.BinOp a op b pos) (tE κ B (dE (n + 1) T xk) (.BinOp a op b pos)) := by
  refine PE.imp (pe_opW (hf a) (hf b)) fun σ H Q ⟨F, ρ, k, en, hd, hq⟩ => ?_
  refine ⟨F, ρ, _, en, hd, fun ra ρ1 v1 F1 H1 h1 p1 o1 => ⟨F1, ρ1, _, p1.env, h1, fun rb ρ2 v2 F2 H2 h2 p2 o2 pins s v u I rx ry => ?_⟩⟩
  obtain ⟨x, y, e1, e2, h2⟩ := two_inv h2
  exact dOp_ok C.hK I rx ry ((o1.post p2 e1).rd p2.env e1) (o2.rd p2.env e2) (p1.trans p2) h2 fun r v F' H' hk p o => hq r ρ2 v F' H' hk p o

/-! ### comparisons -/
theorem cmp_room (C : CtxOk κ k X T B xk) : X.A.units + 64 < cLine := C.room.units
theorem pc_W {a b : Expr} {ta tb : TE} {op : CmpOp} (ha : PE X a ta) (hb : PE X b tb) : PC X op a b (fun σ H Q => ta σ H fun x H1 => tb σ H1 fun y H2 =>
    ∀ pins s v u, Inv X pins σ H2 s → RelV x v → RelV y u → wpAny (model X.prog X.w) X.A (compareOp op v u) (EP X pins σ Q) X.xe s) :=
  ⟨fun pins s σ H Q I h => bin ha hb I h fun v u s2 x y H2 I2 rx ry q => q pins s2 v u I2 rx ry⟩
/-- one comparison, its reading with the bool -/
theorem PC.imp {a b : Expr} {op : CmpOp} {t t' : TE} (h : PC X op a b t) (i : ∀ σ H Q, t' σ H Q → t σ H Q) : PC X op a b t' := ⟨fun pins s σ H Q I q => h.run pins s σ H Q I (i σ H Q q)⟩
def tCmpD (κ : KB) (B : Hp) (T : Tab) (xk : DX → Prop) (f : Expr → Env' → KR → Prop) (a : Expr) (ops : List CmpOp) (cs : List Expr) : TE := fun σ H Q => ∃ (F : Hp) (ρ : Env') (k : Bool → Env' → Prop), EnvOk κ B F H σ ρ ∧ dCompare f T xk a ops cs ρ k ∧ ∀ b ρ' F' H', k b ρ' → Post κ B F H σ ρ F' H' ρ' → Q (.bl b) H'
theorem noSet_marks {op : CmpOp} {b : Expr} (h : noSet b = true) : behindInMarks op b = false := by
  cases b <;> first | rfl | cases h
theorem noSet_last {op op' : CmpOp} {b c : Expr} (h : noSet c = true) : lastMarks [op, op'] [b, c] = false := noSet_marks h
theorem dE_noSet {e : Expr} {ρ : Env'} {k : KR} (h : dE n T xk e ρ k) : noSet e = true := by
  cases n with
  | zero => exact h.elim
  | succ n => cases e <;> first | rfl | exact h.elim
theorem dE_noStar {e : Expr} {ρ : Env'} {k : KR} (h : dE n T xk e ρ k) : isStar e = false := by
  cases n with
  | zero => exact h.elim
  | succ n => cases e <;> first | rfl | exact h.elim
theorem dCmpX_ok (C : CtxOk κ k X T B xk) {F H F0 H0 : Hp} {σ : L2.St} {ρ0 ρ : Env'} {pins : List (Addr × Obj)} {s : Shared} {Q : VK} {op : CmpOp} {ra rb : R} {x y : D} {v w : V} {u u' : Value} {kb : Bool → Prop} (I : Inv X pins σ H s) (rv : RelV v u) (rw' : RelV w u')
    (o1 : ROk κ B H0 F H σ ρ ra v) (o2 : ROk κ B H0 F H σ ρ rb w) (e1 : look ρ ra = some x) (e2 : look ρ rb = some y) (p : Post κ B F0 H0 σ ρ0 F H ρ) (h : dCmpX T xk op ra rb x y kb)
    (hq : ∀ b F' H', kb b → Post κ B F0 H0 σ ρ0 F' H' ρ → Q (.bl b) H') : wpAny (model X.prog X.w) X.A (compareOp op u u') (EP X pins σ Q) X.xe s := by
  have plain : ∀ {op}, dCmp op x y kb → wpAny (model X.prog X.w) X.A (compareOp op u u') (EP X pins σ Q) X.xe s := fun {op} h =>
    dCmp_ok C.hK C.hnd (cmp_room C) I rv rw' (o1.rd p.env e1) (o2.rd p.env e2) p.env.sub h fun b hb => hq b F H hb p
  unfold dCmpX at h
  split at h
  · split at h
    · exact PySem.W.cmp_ofEq (eqL_ok C I (ra := .val .non) rv rw' o1 o2 p h hq)
    · split at h
      · unfold dEqR at h
        split at h
        · split at h
          · rename_i sm t hs ht
            refine PySem.W.cmp_ofEq (wpAny_mono (eqR_ok C I rw' rv o2 o1 (.inl rfl) hs ht h.1 p h.2 hq) (fun z s' hz => ?_) fun _ _ z => z)
            obtain ⟨r, H', rfl, I', q⟩ := hz
            exact ⟨.bl r, H', I', rfl, q⟩
          · exact h.elim
        · exact h.elim
      · exact plain h
  · split at h
    · exact PySem.W.cmp_ofNotEq (neL_ok C I (ra := .val .non) rv rw' o1 o2 p h hq)
    · exact plain h
  · split at h
    · exact inL_ok C I rv rw' o1 o2 p h hq
    · exact plain h
  · exact plain h
theorem c_pc1 (C : CtxOk κ k X T B xk) (hf : ∀ e, PE X e (tE κ B (dE n T xk) e)) {a b : Expr} {op : CmpOp} : PC X op a b (tCmpD κ B T xk (dE n T xk) a [op] [b]) := by
  refine PC.imp (pc_W (hf a) (hf b)) fun σ H Q ⟨F, ρ, k, en, hd, hq⟩ => ?_
  refine ⟨F, ρ, _, en, hd.2, fun ra ρ1 v1 F1 H1 h1 p1 o1 => ⟨F1, ρ1, _, p1.env, h1, fun rb ρ2 v2 F2 H2 h2 p2 o2 pins s v u I rx ry => ?_⟩⟩
  obtain ⟨x, y, e1, e2, h2⟩ := two_inv h2
  exact dCmpX_ok C I rx ry (o1.post p2 e1) (o2.back p1) e1 e2 (p1.trans p2) h2 fun b F' H' hb p => hq b ρ2 F' H' hb p
/-- the chain of two -/
theorem c_chain (C : CtxOk κ k X T B xk) (hf : ∀ e, PE X e (tE κ B (dE n T xk) e)) {a b c : Expr} {op op' : CmpOp} {pos : Pos} (hc : noSet c = true) : PE X (.Compare a [op, op'] [b, c] pos) (tCmpD κ B T xk (dE n T xk) a [op, op'] [b, c]) := by
  refine ⟨fun pins s σ H Q I ⟨F, ρ, k, en, hd, hq⟩ => ?_⟩
  refine Compare_chain (thn ((hf a).run pins s σ H (fun x H1 => ∃ F1 ρ1 ra, Post κ B F H σ ρ F1 H1 ρ1 ∧ ROk κ B H F1 H1 σ ρ1 ra x ∧ dE n T xk b ρ1 fun rb ρ2 => two ρ2 ra rb fun x y => dCmp op x y fun r =>
      if r = true then dE n T xk c ρ2 fun rc ρ3 => two ρ3 rb rc fun y z => dCmp op' y z fun r => k r ρ3 else k false ρ2) I ⟨F, ρ, _, en, hd.2, fun ra ρ1 v1 F1 H1 h1 p1 o1 => ⟨F1, ρ1, ra, p1, o1, h1⟩⟩) fun v s1 ⟨x, H1, I1, r1, F1, ρ1, ra, p1, o1, h1⟩ =>
    chain_link (thn ((hf b).run pins s1 σ H1 (fun y H2 => ∃ F2 ρ2 rb, Post κ B F1 H1 σ ρ1 F2 H2 ρ2 ∧ ROk κ B H1 F2 H2 σ ρ2 rb y ∧ two ρ2 ra rb fun x y => dCmp op x y fun r =>
      if r = true then dE n T xk c ρ2 fun rc ρ3 => two ρ3 rb rc fun y z => dCmp op' y z fun r => k r ρ3 else k false ρ2) I1 ⟨F1, ρ1, _, p1.env, h1, fun rb ρ2 v2 F2 H2 h2 p2 o2 => ⟨F2, ρ2, rb, p2, o2, h2⟩⟩) fun u s2 ⟨y, H2, I2, r2, F2, ρ2, rb, p2, o2, h2⟩ => ?_)) (noSet_last hc)
  obtain ⟨dx, dy, e1, e2, h2⟩ := two_inv h2
  refine thn (dCmp_ok (Q := fun z H3 => ∃ q, z = .bl q ∧ H3 = H2 ∧ if q = true then dE n T xk c ρ2 fun rc ρ3 => two ρ3 rb rc fun y z => dCmp op' y z fun r => k r ρ3 else k false ρ2) C.hK C.hnd (cmp_room C) I2 r1 r2 ((o1.post p2 e1).rd p2.env e1) (o2.rd p2.env e2) p2.env.sub h2 fun b hb => ⟨b, rfl, rfl, hb⟩) fun d s3 ⟨z, H3, I3, r3, q, e, eH, q3⟩ => ?_
  subst e eH
  cases r3
  refine wpAny_truthy_bool ?_
  cases q with
  | false => exact ite_ff ⟨.bl false, _, I3, rfl, hq false ρ2 F2 _ q3 (p1.trans p2)⟩
  | true =>
    refine ite_tt (chain_last (thn ((hf c).run pins s3 σ _ (fun z H4 => ∃ F3 ρ3 rc, Post κ B F2 _ σ ρ2 F3 H4 ρ3 ∧ ROk κ B _ F3 H4 σ ρ3 rc z ∧ two ρ3 rb rc fun y z => dCmp op' y z fun r => k r ρ3) I3 ⟨F2, ρ2, _, p2.env, q3, fun rc ρ3 v3 F3 H3 h3 p3 o3 => ⟨F3, ρ3, rc, p3, o3, h3⟩⟩) fun w' s4 ⟨z', H4, I4, r4, F3, ρ3, rc, p3, o3, h3⟩ => ?_))
    obtain ⟨dy', dz, e3, e4, h3⟩ := two_inv h3
    exact dCmp_ok C.hK C.hnd (cmp_room C) I4 r2 r4 ((o2.post p3 e3).rd p3.env e3) (o3.rd p3.env e4) p3.env.sub h3 fun b hb => hq b ρ3 F3 H4 hb ((p1.trans p2).trans p3)
end
end DL

set_option Elab.async false
set_option linter.all false
set_option maxRecDepth 100000
set_option maxHeartbeats 1000000
/-! DL7: the interpreter on expressions is right (2). -/
namespace DL
open PySem PySem.Spec PyProof.Rows L2

section
variable {κ : KB} {k : Nat} {X : Cx} {T : Tab} {B : Hp} {xk : DX → Prop} {n : Nat}

/-! ### comparisons, as values and as tests -/
theorem c_cmpV (C : CtxOk κ k X T B xk) (hf : ∀ e, PE X e (tE κ B (dE n T xk) e)) {a : Expr} {ops : List CmpOp} {cs : List Expr} {pos : Pos} : PE X (.Compare a ops cs pos) (tCmpD κ B T xk (dE n T xk) a ops cs) := by
  match ops, cs with
  | [op], [b] =>
    by_cases hb : noSet b = true
    · exact pe_cmp (c_pc1 C hf) (noSet_marks hb)
    · exact PE.no fun σ H Q ⟨F, ρ, k, en, hd, hq⟩ => hb hd.1
  | [op, op'], [b, c] =>
    by_cases hc : noSet c = true
    · exact c_chain C hf hc
    · exact PE.no fun σ H Q ⟨F, ρ, k, en, hd, hq⟩ => hc hd.1
  | [], _ => exact PE.no fun σ H Q ⟨F, ρ, k, en, hd, hq⟩ => hd.elim
  | [_], [] => exact PE.no fun σ H Q ⟨F, ρ, k, en, hd, hq⟩ => hd.elim
  | [_], _ :: _ :: _ => exact PE.no fun σ H Q ⟨F, ρ, k, en, hd, hq⟩ => hd.elim
  | [_, _], [] => exact PE.no fun σ H Q ⟨F, ρ, k, en, hd, hq⟩ => hd.elim
  | [_, _], [_] => exact PE.no fun σ H Q ⟨F, ρ, k, en, hd, hq⟩ => hd.elim
  | [_, _], _ :: _ :: _ :: _ => exact PE.no fun σ H Q ⟨F, ρ, k, en, hd, hq⟩ => hd.elim
  | _ :: _ :: _ :: _, _ => exact PE.no fun σ H Q ⟨F, ρ, k, en, hd, hq⟩ => hd.elim
theorem c_cmp (C : CtxOk κ k X T B xk) (hf : ∀ e, PE X e (tE κ B (dE n T xk) e)) {a : Expr} {ops : List CmpOp} {cs : List Expr} {pos : Pos} : PE X (.Compare a ops cs pos) (tE κ B (dE (n + 1) T xk) (.Compare a ops cs pos)) :=
  PE.imp (c_cmpV C hf) fun σ H Q ⟨F, ρ, k, en, hd, hq⟩ => ⟨F, ρ, _, en, hd, fun b ρ' F' H' hk p => hq _ ρ' _ F' H' hk p rfl⟩
theorem c_chainT (C : CtxOk κ k X T B xk) (hf : ∀ e, PE X e (tE κ B (dE n T xk) e)) {a b c : Expr} {op op' : CmpOp} {pos : Pos} (hc : noSet c = true) : PT X (.Compare a [op, op'] [b, c] pos) (tTe κ B (fun _ ρ k => dCompare (dE n T xk) T xk a [op, op'] [b, c] ρ k) (.Compare a [op, op'] [b, c] pos)) := by
  refine ⟨fun pins s σ H Q I ⟨F, ρ, k, en, hd, hq⟩ => ?_⟩
  refine isTrue_chain (thn ((hf a).run pins s σ H (fun x H1 => ∃ F1 ρ1 ra, Post κ B F H σ ρ F1 H1 ρ1 ∧ ROk κ B H F1 H1 σ ρ1 ra x ∧ dE n T xk b ρ1 fun rb ρ2 => two ρ2 ra rb fun x y => dCmp op x y fun r =>
      if r = true then dE n T xk c ρ2 fun rc ρ3 => two ρ3 rb rc fun y z => dCmp op' y z fun r => k r ρ3 else k false ρ2) I ⟨F, ρ, _, en, hd.2, fun ra ρ1 v1 F1 H1 h1 p1 o1 => ⟨F1, ρ1, ra, p1, o1, h1⟩⟩) fun v s1 ⟨x, H1, I1, r1, F1, ρ1, ra, p1, o1, h1⟩ =>
    test_link (thn ((hf b).run pins s1 σ H1 (fun y H2 => ∃ F2 ρ2 rb, Post κ B F1 H1 σ ρ1 F2 H2 ρ2 ∧ ROk κ B H1 F2 H2 σ ρ2 rb y ∧ two ρ2 ra rb fun x y => dCmp op x y fun r =>
      if r = true then dE n T xk c ρ2 fun rc ρ3 => two ρ3 rb rc fun y z => dCmp op' y z fun r => k r ρ3 else k false ρ2) I1 ⟨F1, ρ1, _, p1.env, h1, fun rb ρ2 v2 F2 H2 h2 p2 o2 => ⟨F2, ρ2, rb, p2, o2, h2⟩⟩) fun u s2 ⟨y, H2, I2, r2, F2, ρ2, rb, p2, o2, h2⟩ => ?_)) (noSet_last hc)
  obtain ⟨dx, dy, e1, e2, h2⟩ := two_inv h2
  refine thn (dCmp_ok (Q := fun z H3 => ∃ q, z = .bl q ∧ H3 = H2 ∧ if q = true then dE n T xk c ρ2 fun rc ρ3 => two ρ3 rb rc fun y z => dCmp op' y z fun r => k r ρ3 else k false ρ2) C.hK C.hnd (cmp_room C) I2 r1 r2 ((o1.post p2 e1).rd p2.env e1) (o2.rd p2.env e2) p2.env.sub h2 fun b hb => ⟨b, rfl, rfl, hb⟩) fun d s3 ⟨z, H3, I3, r3, q, e, eH, q3⟩ => ?_
  subst e eH
  cases r3
  refine wpAny_truthy_bool ?_
  cases q with
  | false => exact ite_ff ⟨_, I3, hq false ρ2 F2 _ q3 (p1.trans p2)⟩
  | true =>
    refine ite_tt (test_last (thn ((hf c).run pins s3 σ _ (fun z H4 => ∃ F3 ρ3 rc, Post κ B F2 _ σ ρ2 F3 H4 ρ3 ∧ ROk κ B _ F3 H4 σ ρ3 rc z ∧ two ρ3 rb rc fun y z => dCmp op' y z fun r => k r ρ3) I3 ⟨F2, ρ2, _, p2.env, q3, fun rc ρ3 v3 F3 H3 h3 p3 o3 => ⟨F3, ρ3, rc, p3, o3, h3⟩⟩) fun w' s4 ⟨z', H4, I4, r4, F3, ρ3, rc, p3, o3, h3⟩ => ?_))
    obtain ⟨dy', dz, e3, e4, h3⟩ := two_inv h3
    refine thn (dCmp_ok (Q := fun z H5 => ∃ q, z = .bl q ∧ H5 = H4 ∧ k q ρ3) C.hK C.hnd (cmp_room C) I4 r2 r4 ((o2.post p3 e3).rd p3.env e3) (o3.rd p3.env e4) p3.env.sub h3 fun b hb => ⟨b, rfl, rfl, hb⟩) fun d' s5 ⟨z2, H5, I5, r5, k2, ea, eb, q5⟩ => ?_
    subst ea eb
    cases r5
    exact wpAny_truthy_bool ⟨_, I5, hq k2 ρ3 F3 _ q5 ((p1.trans p2).trans p3)⟩
theorem c_cmpT (C : CtxOk κ k X T B xk) (hf : ∀ e, PE X e (tE κ B (dE n T xk) e)) {a : Expr} {ops : List CmpOp} {cs : List Expr} {pos : Pos} : PT X (.Compare a ops cs pos) (tTe κ B (dT (n + 1) T xk) (.Compare a ops cs pos)) := by
  match ops, cs with
  | [op], [b] =>
    by_cases hb : noSet b = true
    · exact PT.imp (pt_cmp (c_pc1 C hf) (noSet_marks hb)) fun σ H Q ⟨F, ρ, k, en, hd, hq⟩ => ⟨F, ρ, k, en, hd, fun b ρ' F' H' hk p => ⟨b, rfl, hq b ρ' F' H' hk p⟩⟩
    · exact PT.no fun σ H Q ⟨F, ρ, k, en, hd, hq⟩ => hb hd.1
  | [op, op'], [b, c] =>
    by_cases hc : noSet c = true
    · exact c_chainT C hf hc
    · exact PT.no fun σ H Q ⟨F, ρ, k, en, hd, hq⟩ => hc hd.1
  | [], _ => exact PT.no fun σ H Q ⟨F, ρ, k, en, hd, hq⟩ => hd.elim
  | [_], [] => exact PT.no fun σ H Q ⟨F, ρ, k, en, hd, hq⟩ => hd.elim
  | [_], _ :: _ :: _ => exact PT.no fun σ H Q ⟨F, ρ, k, en, hd, hq⟩ => hd.elim
  | [_, _], [] => exact PT.no fun σ H Q ⟨F, ρ, k, en, hd, hq⟩ => hd.elim
  | [_, _], [_] => exact PT.no fun σ H Q ⟨F, ρ, k, en, hd, hq⟩ => hd.elim
  | [_, _], _ :: _ :: _ :: _ => exact PT.no fun σ H Q ⟨F, ρ, k, en, hd, hq⟩ => hd.elim
  | _ :: _ :: _ :: _, _ => exact PT.no fun σ H Q ⟨F, ρ, k, en, hd, hq⟩ => hd.elim

/-! ### and, or, not, if -/
theorem c_boolV (hf : ∀ e, PE X e (tE κ B (dE n T xk) e)) {op : BoolOp} {pos : Pos} : ∀ {vs : List Expr}, PE X (.BoolOp op vs pos) (tE κ B (fun _ ρ k => dBoolV (dE n T xk) op vs ρ k) (.BoolOp op vs pos))
  | [] => PE.no fun σ H Q ⟨F, ρ, k, en, hd, hq⟩ => hd
  | [e] => PE.imp (pe_one (hf e)) fun σ H Q ⟨F, ρ, k, en, hd, hq⟩ => ⟨F, ρ, k, en, hd, hq⟩
  | e :: e2 :: es => by
    have ih := @c_boolV hf op pos (e2 :: es)
    cases op with
    | And =>
      refine PE.imp (pe_and (hf e) ih) fun σ H Q ⟨F, ρ, k, en, hd, hq⟩ => ⟨F, ρ, _, en, hd, fun r ρ1 v F1 H1 h1 p1 o1 => ?_⟩
      split at h1
      · rename_i b hl
        have rd := o1.rd p1.env hl
        cases rd
        refine ⟨b, rfl, ?_⟩
        cases b with
        | true => exact ⟨F1, ρ1, k, p1.env, h1, fun r ρ2 v F2 H2 hk p2 o2 => hq r ρ2 v F2 H2 hk (p1.trans p2) (o2.back p1)⟩
        | false => exact hq _ ρ1 _ F1 H1 h1 p1 rfl
      · exact h1.elim
    | Or =>
      refine PE.imp (pe_or (hf e) ih) fun σ H Q ⟨F, ρ, k, en, hd, hq⟩ => ⟨F, ρ, _, en, hd, fun r ρ1 v F1 H1 h1 p1 o1 => ?_⟩
      split at h1
      · rename_i b hl
        have rd := o1.rd p1.env hl
        cases rd
        refine ⟨b, rfl, ?_⟩
        cases b with
        | false => exact ⟨F1, ρ1, k, p1.env, h1, fun r ρ2 v F2 H2 hk p2 o2 => hq r ρ2 v F2 H2 hk (p1.trans p2) (o2.back p1)⟩
        | true => exact hq _ ρ1 _ F1 H1 h1 p1 rfl
      · exact h1.elim
theorem c_boolT (ht : ∀ e, PT X e (tTe κ B (dT n T xk) e)) {op : BoolOp} {pos : Pos} : ∀ {vs : List Expr}, PW X (.BoolOp op vs pos) (tTe κ B (fun _ ρ k => dBoolT (dT n T xk) op vs ρ k) (.BoolOp op vs pos))
  | [] => ⟨fun _ _ _ σ H Q _ ⟨F, ρ, k, en, hd, hq⟩ => hd.elim⟩
  | [e] => by
    cases op with
    | And => exact PW.imp (pw_and1 (ht e)) fun σ H Q ⟨F, ρ, k, en, hd, hq⟩ => ⟨F, ρ, k, en, hd, hq⟩
    | Or => exact PW.imp (pw_or1 (ht e)) fun σ H Q ⟨F, ρ, k, en, hd, hq⟩ => ⟨F, ρ, k, en, hd, hq⟩
  | e :: e2 :: es => by
    have ih := @c_boolT ht op pos (e2 :: es)
    cases op with
    | And =>
      refine PW.imp (pw_and (ht e) ih) fun σ H Q ⟨F, ρ, k, en, hd, hq⟩ => ⟨F, ρ, _, en, hd, fun b ρ1 F1 H1 h1 p1 => ?_⟩
      cases b with
      | true => exact ⟨F1, ρ1, k, p1.env, h1, fun r ρ2 F2 H2 hk p2 => hq r ρ2 F2 H2 hk (p1.trans p2)⟩
      | false => exact hq _ ρ1 F1 H1 h1 p1
    | Or =>
      refine PW.imp (pw_or (ht e) ih) fun σ H Q ⟨F, ρ, k, en, hd, hq⟩ => ⟨F, ρ, _, en, hd, fun b ρ1 F1 H1 h1 p1 => ?_⟩
      cases b with
      | false => exact ⟨F1, ρ1, k, p1.env, h1, fun r ρ2 F2 H2 hk p2 => hq r ρ2 F2 H2 hk (p1.trans p2)⟩
      | true => exact hq _ ρ1 F1 H1 h1 p1
theorem c_un (hf : ∀ e, PE X e (tE κ B (dE n T xk) e)) {op : UnaryOp} {a : Expr} {pos : Pos} : PE X (.UnaryOp op a pos) (tE κ B (dE (n + 1) T xk) (.UnaryOp op a pos)) := by
  have nope : ∀ {t : TE}, (∀ σ H Q, tE κ B (dE (n + 1) T xk) (.UnaryOp op a pos) σ H Q → tE κ B (dE n T xk) a σ H fun _ _ => False) → PE X (.UnaryOp op a pos) (tE κ B (dE (n + 1) T xk) (.UnaryOp op a pos)) := fun {t} h => by
    refine ⟨fun pins s σ H Q I q => ?_⟩
    exact UnaryOp_ (thn ((hf a).run pins s σ H _ I (h σ H Q q)) fun v s1 ⟨x, H1, I1, r1, q1⟩ => q1.elim)
  cases op with
  | Not =>
    refine PE.imp (pe_not (hf a)) fun σ H Q ⟨F, ρ, k, en, hd, hq⟩ => ⟨F, ρ, _, en, hd, fun r ρ1 v F1 H1 h1 p1 o1 => ?_⟩
    cases hl : look ρ1 r with
    | none => rw [hl] at h1; exact h1.elim
    | some d =>
      rw [hl] at h1
      cases d with
      | bl b =>
        have rd := o1.rd p1.env hl
        cases rd
        exact ⟨b, rfl, hq _ ρ1 _ F1 H1 h1 p1 rfl⟩
      | _ => exact h1.elim
  | USub =>
    refine PE.imp (pe_un un_neg (hf a)) fun σ H Q ⟨F, ρ, k, en, hd, hq⟩ => ⟨F, ρ, _, en, hd, fun r ρ1 v F1 H1 h1 p1 o1 => ?_⟩
    cases hl : look ρ1 r with
    | none => rw [hl] at h1; exact h1.elim
    | some d =>
      rw [hl] at h1
      cases d with
      | int b =>
        have rd := o1.rd p1.env hl
        cases rd
        exact ⟨b, rfl, hq _ ρ1 _ F1 H1 h1 p1 rfl⟩
      | _ => exact h1.elim
  | Invert => exact nope (t := fun _ _ _ => False) fun σ H Q ⟨F, ρ, k, en, hd, hq⟩ => ⟨F, ρ, _, en, hd, fun r ρ1 v F1 H1 h1 p1 o1 => h1.elim⟩
  | UAdd => exact nope (t := fun _ _ _ => False) fun σ H Q ⟨F, ρ, k, en, hd, hq⟩ => ⟨F, ρ, _, en, hd, fun r ρ1 v F1 H1 h1 p1 o1 => h1.elim⟩
theorem c_if (hf : ∀ e, PE X e (tE κ B (dE n T xk) e)) (ht : ∀ e, PT X e (tTe κ B (dT n T xk) e)) {c a b : Expr} {pos : Pos} : PE X (.IfExp c a b pos) (tE κ B (dE (n + 1) T xk) (.IfExp c a b pos)) := by
  refine PE.imp (pe_ifExp (ht c) (hf a) (hf b)) fun σ H Q ⟨F, ρ, k, en, hd, hq⟩ => ⟨F, ρ, _, en, hd, fun q ρ1 F1 H1 h1 p1 => ?_⟩
  cases q with
  | true => exact ⟨F1, ρ1, k, p1.env, h1, fun r ρ2 v F2 H2 hk p2 o2 => hq r ρ2 v F2 H2 hk (p1.trans p2) (o2.back p1)⟩
  | false => exact ⟨F1, ρ1, k, p1.env, h1, fun r ρ2 v F2 H2 hk p2 o2 => hq r ρ2 v F2 H2 hk (p1.trans p2) (o2.back p1)⟩

/-! ### displays, fields, subscripts -/
theorem c_list (hf : ∀ e, PE X e (tE κ B (dE n T xk) e)) {es : List Expr} {pos : Pos} : PE X (.List es pos) (tE κ B (dE (n + 1) T xk) (.List es pos)) := by
  refine PE.imp (pe_lst (pa_V hf (fun e ρ k h => dE_noStar h) es)) fun σ H Q ⟨F, ρ, k, en, hd, hq⟩ => ⟨F, ρ, _, en, hd, fun ds ρ1 vs F1 H1 h1 p1 o1 => ⟨by rw [← o1.len]; exact h1.1, fun p hn => ?_⟩⟩
  exact Wants.lst (kr := fun r => k r ρ1) (fun r v F' H' hk p o => hq r ρ1 v F' H' hk p o) p1 o1 hn h1.2
theorem c_tuple (hf : ∀ e, PE X e (tE κ B (dE n T xk) e)) {es : List Expr} {j : Nat} {pos : Pos} : PE X (.Tuple es j pos) (tE κ B (dE (n + 1) T xk) (.Tuple es j pos)) := by
  refine PE.imp (pe_tup (pa_V hf (fun e ρ k h => dE_noStar h) es)) fun σ H Q ⟨F, ρ, k, en, hd, hq⟩ => ⟨F, ρ, _, en, hd, fun ds ρ1 vs F1 H1 h1 p1 o1 => ⟨by rw [← o1.len]; exact h1.1, fun p hn => ?_⟩⟩
  exact Wants.tup (kr := fun r => k r ρ1) (fun r v F' H' hk p o => hq r ρ1 v F' H' hk p o) p1 o1 hn h1.2
theorem pe_ndnew {pos : Pos} : PE X (.Dict [] [] pos) (fun σ H Q => ∀ p, H p = none → Q (.ref p) (upd H p (.ext (ndP X.prog X.w p [] [])))) := ⟨fun pins s σ H Q I h =>
  wpAny_Dict_empty ⟨.ref s.heap.objs.size, _, I.laid (a := s.heap.objs.size) (o := .ext (ndP X.prog X.w s.heap.objs.size [] [])) (t' := s.toks) (fun _ _ q => Heap.get?_push_of_some _ q) (Nat.le_refl _)
    ⟨⟨Nat.zero_le _, beq_eq_false_iff_ne.mpr (Ne.symm (Nat.ne_of_lt I.big)), rfl, [], .nil, Heap.DictOf.new s.heap⟩, ⟨_, Heap.get?_push_size _ rfl⟩, fun h1 h2 ⟨a1, a2, a3, us, a4, a5⟩ e => ⟨a1, a2, a3, us, a4, dict_keep a5 e⟩⟩, rfl, h _ (I.hok.fresh (Nat.le_refl _))⟩⟩
theorem c_dict (C : CtxOk κ k X T B xk) {pos : Pos} : PE X (.Dict [] [] pos) (tE κ B (dE (n + 1) T xk) (.Dict [] [] pos)) := by
  refine PE.imp pe_ndnew fun σ H Q ⟨F, ρ, k, en, hd, hq⟩ p hp => ?_
  have pp : Post κ B F H σ ρ F (upd H p (.ext (ndP X.prog X.w p [] []))) ρ := .heap en (same_new hp)
  exact hq _ ρ _ F _ hd pp ⟨p, rfl, en.sub.free hp, en.noRoot hp, ⟨[], by rw [upd_same, C.hnd], rfl, .nil⟩, hp, en.bas.free hp⟩
theorem zip_lookup {F : Hp} {m : Str} {d : D} : ∀ {ns : List Str} {ds : List D} {vs : List V}, ns.length = ds.length → RepL κ F ds vs → (ns.zip ds).lookup m = some d → ∃ v, (ns.zip vs).lookup m = some v ∧ Rep κ F d v
  | [], _, _, _, _, h => by simp at h
  | _ :: _, [], _, hl, _, _ => by simp at hl
  | a :: ns, d' :: ds, _, hl, r, h => by
    obtain ⟨v, vs, rfl, r1, r2⟩ := r.cons_inv
    rw [List.zip_cons_cons, List.lookup_cons] at h ⊢
    cases e : m == a with
    | true => rw [e] at h; cases h; exact ⟨v, rfl, r1⟩
    | false => rw [e] at h; exact zip_lookup (by simpa using hl) r2 h
theorem zip_lookup_none {F : Hp} {m : Str} : ∀ {ns : List Str} {ds : List D} {vs : List V}, ns.length = ds.length → RepL κ F ds vs → (ns.zip ds).lookup m = none → (ns.zip vs).lookup m = none
  | [], _, _, _, _, h => by simp
  | _ :: _, [], _, hl, _, _ => by simp at hl
  | a :: ns, d' :: ds, _, hl, r, h => by
    obtain ⟨v, vs, rfl, r1, r2⟩ := r.cons_inv
    rw [List.zip_cons_cons, List.lookup_cons] at h ⊢
    cases e : m == a with
    | true => rw [e] at h; cases h
    | false => rw [e] at h; exact zip_lookup_none (by simpa using hl) r2 h
theorem plain_base {o : Expr} (h : plainBase o = true) (f : Str) (env : Env) (whole : Sem Value) : attributeBase o f env whole = whole := by
  cases o with
  | Call g args kws pos =>
    cases g with
    | Name x p =>
      cases args with
      | nil =>
        cases kws with
        | nil => cases h
        | cons _ _ => rfl
      | cons _ _ => rfl
    | _ => rfl
  | _ => rfl
theorem c_attr (C : CtxOk κ k X T B xk) (hf : ∀ e, PE X e (tE κ B (dE n T xk) e)) {o : Expr} {m : Str} {pos : Pos} : PE X (.Attribute o m pos) (tE κ B (dE (n + 1) T xk) (.Attribute o m pos)) := by
  by_cases hb : plainBase o = true
  · refine PE.imp (pe_fld (hf o) (plain_base hb m X.env _)) fun σ H Q ⟨F, ρ, k, en, hd, hq⟩ => ⟨F, ρ, _, en, hd.2, fun r ρ1 v F1 H1 h1 p1 o1 => ?_⟩
    cases hl : look ρ1 r with
    | none => rw [hl] at h1; exact h1.elim
    | some d =>
      rw [hl] at h1
      cases d with
      | obj c ns ds =>
        obtain ⟨p, dx, vs, rfl, a, b, rp⟩ := o1.rd p1.env hl
        have h1 : (match (ns.zip ds).lookup m with
          | some d => T.fls.contains (c, m) = true ∧ k (.val d) ρ1
          | none => False) := h1
        cases e : (ns.zip ds).lookup m with
        | none => rw [e] at h1; exact h1.elim
        | some d =>
          rw [e] at h1
          obtain ⟨w, hw, rw'⟩ := zip_lookup b rp e
          obtain ⟨cl, na⟩ := C.fld c m h1.1
          exact ⟨p, _, dx, _, w, rfl, a, cl, na, hw, hq _ ρ1 w F1 H1 h1.2 p1 rw'⟩
      | _ => exact h1.elim
  · exact PE.no fun σ H Q ⟨F, ρ, k, en, hd, hq⟩ => hb hd.1
theorem atI_rep {F : Hp} {ds : List D} {vs : List V} {i : Int} {d : D} (r : RepL κ F ds vs) (h : atI ds i = some d) : ∃ v, atI vs i = some v ∧ Rep κ F d v := by
  unfold atI at h ⊢
  rw [← r.len]
  cases e : ixN ds.length i with
  | none => rw [e] at h; cases h
  | some j => rw [e] at h; exact r.get h
def noSlice : Expr → Bool
  | .Slice .. => false
  | _ => true
theorem atI_ints {ns : List Int} {i d : Int} (e : atI ns i = some d) : atI (ns.map V.int) i = some (.int d) := by
  unfold atI at e ⊢
  rw [List.length_map]
  cases h : ixN ns.length i with
  | none => rw [h] at e; cases e
  | some j =>
    rw [h] at e
    have e : ns[j]? = some d := e
    show (ns.map V.int)[j]? = some (.int d)
    rw [List.getElem?_map, e]; rfl
theorem pe_ixW {a b : Expr} {ta tb : TE} {pos : Pos} (ha : PE X a ta) (hb : PE X b tb) : PE X (.Subscript a b pos) (fun σ H Q => ta σ H fun x H1 => tb σ H1 fun y H2 =>
    ∀ pins s v u, Inv X pins σ H2 s → RelV x v → RelV y u → wpAny (model X.prog X.w) X.A (subscriptTail a b v u) (EP X pins σ Q) X.xe s) :=
  ⟨fun pins s σ H Q I h => Subscript_ (binT ha hb I h fun v u s2 x y H2 I2 rx ry q => q pins s2 v u I2 rx ry)⟩
theorem getG_rep {F : Hp} {key : Option Key} {d : D} : ∀ {ks : List (Option Key)} {ds : List D} {vs : List V}, RepL κ F ds vs → getG key ks ds = some d → ∃ v, getG key ks vs = some v ∧ Rep κ F d v
  | [], _, _, _, h => by cases h
  | k :: ks, [], _, _, h => by cases h
  | k :: ks, x :: ds, vs, r, h => by
    obtain ⟨v, r1, rfl, rv, rl⟩ := r.cons_inv
    unfold getG at h ⊢
    split at h
    · rename_i e
      cases h
      exact ⟨v, if_pos e, rv⟩
    · rename_i e
      rw [if_neg e]
      exact getG_rep rl h
theorem getG_val {key : Option Key} {v : V} : ∀ {ks : List (Option Key)} {vs : List V} {us : List Value}, Vals vs us → getG key ks vs = some v → ∃ u, valueAt (ks.zip us) key = some u ∧ RelV v u
  | [], _, _, _, h => by cases h
  | k :: ks, vs, us, r, h => by
    cases r with
    | nil => cases h
    | @cons x u xs us r rs =>
      unfold getG at h
      unfold valueAt
      rw [List.zip_cons_cons, List.find?_cons]
      split at h
      · rename_i e
        cases h
        subst e
        exact ⟨u, by simp, r⟩
      · rename_i e
        obtain ⟨u', h1, h2⟩ := getG_val rs h
        refine ⟨u', ?_, h2⟩
        simp only [e, decide_false]
        exact h1
def rIxN (nd : Addr → List (Option Key) → List V → Heap → Prop) : R2 := fun x y H Q => ∃ p ks vs key v, x = .ref p ∧ H p = some (.ext (nd p ks vs)) ∧ (∀ (P : Program) (wd : World) u, RelV y u → (noneKind P wd).is key u = true) ∧ getG key ks vs = some v ∧ Q v H
theorem ix_nd (hnd : κ.nd = ndP X.prog X.w) : IxR X (rIxN κ.nd) := by
  intro value slice pins s σ H x y v u Q I rx ry h hs
  obtain ⟨p, ks, vs, key, v', rfl, hp, hi, hg, q⟩ := h
  cases rx
  obtain ⟨z1, z2, z3, us, rus, dd⟩ := nd_at hnd I hp
  obtain ⟨w', hw, rw'⟩ := getG_val rus hg
  have hT : s.TypeIs (.ref p) "dict" := dd.typeIs
  have h₂ : wpAny (model X.prog X.w) X.A (getItem (.ref p) u) (EP X pins σ Q) X.xe s := wpAny_getItem_of (hi _ _ u ry) dd.mapOf hw ⟨v', H, I.tok _, rw', q⟩
  unfold subscriptTail
  refine wpAny_bind ?_
  rw [getitemInPython_of_ne hT.not_modules]
  refine wpAny_bind (wpAny_specialOf hT PySem.F.slot_dict_getitem.lookup ?_)
  have fin : wpAny (model X.prog X.w) X.A (subscripted slice false (.ref p) u) (fun r s₃ => wpAny (model X.prog X.w) X.A (letTemporaryGo value (.ref p) r >>= fun _ => pure r) (EP X pins σ Q) X.xe s₃) X.xe s := by
    rw [hs]
    exact wpAny_operating (wpAny_mono h₂ (fun r s₃ h₃ => wpAny_bind (wpAny_letTemporaryGo (wpAny_pure h₃))) fun _ _ x => x)
  first
    | exact wpAny_pure (wpAny_bind fin)
    | exact wpAny_bind (wpAny_pure (wpAny_bind fin))
    | exact wpAny_bind fin
    | exact fin
theorem dIx_ok (C : CtxOk κ k X T B xk) {F H F0 H0 : Hp} {σ : L2.St} {ρ0 ρ : Env'} {x y : D} {v w : V} {kr : R → Prop} {Q : VK} (r1 : RdAt κ F H x v) (r2 : RdAt κ F H y w) (p : Post κ B F0 H0 σ ρ0 F H ρ) (h2 : dIx x y kr) (hq : Wants κ B F0 H0 σ ρ0 ρ kr Q) : rIx X.K v w H Q ∨ rIxN κ.nd v w H Q := by
  unfold dIx at h2
  split at h2
  · obtain ⟨a, vs, rfl, h, rl⟩ := r1
    cases r2
    split at h2
    · rename_i d e
      obtain ⟨v, hv, rv⟩ := atI_rep rl e
      exact .inl (.inl ⟨a, vs, _, v, rfl, rfl, SqL.of h, hv, hq.val p h2 rv⟩)
    · exact h2.elim
  · have r1 : Rep κ F _ _ := r1
    unfold Rep at r1
    obtain ⟨a, vs, rfl, h, rl⟩ := r1
    cases r2
    split at h2
    · rename_i d e
      obtain ⟨v, hv, rv⟩ := atI_rep rl e
      exact .inl (.inr (.inl ⟨a, vs, _, v, rfl, rfl, by rw [C.hK]; exact (same_t p.env.sub h).sq, hv, hq.val p h2 rv⟩))
    · exact h2.elim
  · have r1 : Rep κ F _ _ := r1
    unfold Rep at r1
    obtain ⟨a, rfl, h⟩ := r1
    cases r2
    split at h2
    · rename_i d e
      exact .inl (.inl ⟨a, _, _, .int d, rfl, rfl, by rw [C.hK]; exact (h.same p.env.sub).sq, atI_ints e, hq.val p h2 rfl⟩)
    · exact h2.elim
  · cases r1
    cases r2
    obtain ⟨hz, h2⟩ := h2
    split at h2
    · rename_i d e
      exact .inl (.inr (.inr ⟨_, _, d, rfl, rfl, hz, e, hq.val p h2 rfl⟩))
    · exact h2.elim
  · obtain ⟨a, vs, rfl, h, _, rl⟩ := r1
    split at h2
    · rename_i key hk
      split at h2
      · rename_i d e
        obtain ⟨v, hv, rv⟩ := getG_rep rl e
        exact .inr ⟨a, _, vs, key, v, rfl, h, fun P wd u r => keyD_is r2 r hk, hv, hq.val p h2 rv⟩
      · exact h2.elim
    · exact h2.elim
  · exact h2.elim
theorem c_ix (C : CtxOk κ k X T B xk) (hf : ∀ e, PE X e (tE κ B (dE n T xk) e)) {o i : Expr} {pos : Pos} (hn : noSlice i = true) : PE X (.Subscript o i pos) (tE κ B (fun _ ρ k => dE n T xk o ρ fun ro ρ1 => dE n T xk i ρ1 fun ri ρ2 => two ρ2 ro ri fun x y => dIxX T xk ro ri x y fun r => k r ρ2) (.Subscript o i pos)) := by
  have hp : PlainIx i := fun _ _ => by cases i <;> first | rfl | cases hn
  have hp2 : ∀ o u, subscripted i true o u = runValue (.builtin "lifetime.subscript" ⟨[o, u], []⟩) := fun _ _ => by cases i <;> first | rfl | cases hn
  refine PE.imp (pe_ixW (hf o) (hf i)) fun σ H Q ⟨F, ρ, k, en, hd, hq⟩ => ⟨F, ρ, _, en, hd, fun ra ρ1 v1 F1 H1 h1 p1 o1 => ⟨F1, ρ1, _, p1.env, h1, fun rb ρ2 v2 F2 H2 h2 p2 o2 pins s v u I rx ry => ?_⟩⟩
  obtain ⟨x, y, e1, e2, h2⟩ := two_inv h2
  have o1' := o1.post p2 e1
  unfold dIxX at h2
  split at h2
  · split at h2
    · rename_i hs _
      obtain ⟨f, fd, ps, j, c1, c2, c3, c4, c5, c6⟩ := C.mth _ _ _ (by assumption)
      have ob : Rep κ F2 _ _ := o1'
      have oi : Rep κ F2 _ _ := o2
      have ob' := ob
      unfold Rep at ob
      obtain ⟨a, dx, vs, rfl, ha, _⟩ := ob
      cases rx
      have spk := sp_call (Q := Q) h2 (p1.trans p2) (.cons ob' (.cons oi .nil)) fun d v F' H' hkd p r => hq _ ρ2 v F' H' hkd p r
      rw [List.append_nil] at spk
      exact own_sub I (p2.env.sub _ _ ha) c2 c6 c4 (C.room.mono (by omega)) C.guards c3 C.passes ry spk (hp2 _ _)
    · exact h2.elim
  · exact (ix_seq.or (ix_nd C.hnd)) o i pins s σ H2 v1 v2 v u Q I rx ry (dIx_ok C (o1'.rd p2.env e1) (o2.rd p2.env e2) (p1.trans p2) h2 fun r v F' H' hk p o => hq r ρ2 v F' H' hk p o) (hp _ _)
/-- a slice's part -/
def tPartD (κ : KB) (B : Hp) (f : Expr → Env' → KR → Prop) (o : Option Expr) : TO := fun σ H Q => ∃ (F : Hp) (ρ : Env') (k : Option Int → Env' → Prop), EnvOk κ B F H σ ρ ∧ dPart f o ρ k ∧ ∀ i ρ' F' H', k i ρ' → Post κ B F H σ ρ F' H' ρ' → Q i H'
theorem PO.imp {o : Option Expr} {t t' : TO} (h : PO X o t) (i : ∀ σ H Q, t' σ H Q → t σ H Q) : PO X o t' := ⟨fun pins s σ H Q I q => h.run pins s σ H Q I (i σ H Q q)⟩
theorem c_part (hf : ∀ e, PE X e (tE κ B (dE n T xk) e)) (o : Option Expr) : PO X o (tPartD κ B (dE n T xk) o) := by
  cases o with
  | none => exact PO.imp po_none fun σ H Q ⟨F, ρ, k, en, hd, hq⟩ => hq none ρ F H hd (.refl en)
  | some e =>
    refine PO.imp (po_some (hf e)) fun σ H Q ⟨F, ρ, k, en, hd, hq⟩ => ⟨F, ρ, _, en, hd, fun r ρ1 v F1 H1 h1 p1 o1 => ?_⟩
    cases hl : look ρ1 r with
    | none => rw [hl] at h1; exact h1.elim
    | some d =>
      rw [hl] at h1
      cases d with
      | int b =>
        have rd := o1.rd p1.env hl
        cases rd
        exact ⟨b, rfl, hq _ ρ1 F1 H1 h1 p1⟩
      | _ => exact h1.elim
theorem cut_rep {F : Hp} {ds : List D} {vs : List V} (r : RepL κ F ds vs) (lo hi : Option Int) : RepL κ F (cutL ds lo hi) (cutV vs lo hi) := by
  unfold cutL cutV
  rw [r.len]
  exact (r.drop _).take _
theorem rep_ints {F : Hp} : ∀ ns : List Int, RepL κ F (ns.map D.int) (ns.map V.int)
  | [] => .nil
  | n :: ns => .cons rfl (rep_ints ns)
theorem rep_rev {F : Hp} : ∀ {ds : List D} {vs : List V}, RepL κ F ds vs → RepL κ F ds.reverse vs.reverse
  | [], vs, r => by have := r.nil_inv; subst this; exact .nil
  | d :: ds, vs, r => by
    obtain ⟨v, r1, rfl, rv, rl⟩ := r.cons_inv
    rw [List.reverse_cons, List.reverse_cons]
    exact (rep_rev rl).app (.cons rv .nil)
theorem c_slice (C : CtxOk κ k X T B xk) (hf : ∀ e, PE X e (tE κ B (dE n T xk) e)) {o : Expr} {lo hi : Option Expr} {p2 pos : Pos} : PE X (.Subscript o (.Slice lo hi none p2) pos) (tE κ B (dE (n + 1) T xk) (.Subscript o (.Slice lo hi none p2) pos)) := by
  refine PE.imp (pe_slice (sl_list.or (sl_tupA.or sl_str)) (hf o) (c_part hf lo) (c_part hf hi)) fun σ H Q ⟨F, ρ, k, en, hd, hq⟩ => ⟨F, ρ, _, en, hd, fun ro ρ1 v1 F1 H1 h1 p1 o1 => ⟨F1, ρ1, _, p1.env, h1, fun l ρ2 F2 H2 h2 p2 => ⟨F2, ρ2, _, p2.env, h2, fun u ρ3 F3 H3 h3 p3 => ?_⟩⟩⟩
  cases hl : look ρ3 ro with
  | none => rw [hl] at h3; exact h3.elim
  | some d =>
    rw [hl] at h3
    have rd := (o1.post (p2.trans p3) hl).rd p3.env hl
    cases d with
    | lst xs =>
      obtain ⟨a, vs, rfl, h, rl⟩ := rd
      exact .inl ⟨a, vs, rfl, SqL.of h, fun p hn => Wants.lst (kr := fun r => k r ρ3) (fun r v F' H' hk p o => hq r ρ3 v F' H' hk p o) ((p1.trans p2).trans p3) (cut_rep rl l u) hn h3⟩
    | scr ns =>
      have rd : Rep κ F3 _ _ := rd
      unfold Rep at rd
      obtain ⟨a, rfl, h⟩ := rd
      refine .inl ⟨a, _, rfl, by rw [C.hK]; exact (h.same p3.env.sub).sq, fun p hn => Wants.lst (kr := fun r => k r ρ3) (fun r v F' H' hk p o => hq r ρ3 v F' H' hk p o) ((p1.trans p2).trans p3) ?_ hn h3⟩
      have e : cutV (ns.map V.int) l u = (cutL ns l u).map V.int := by
        unfold cutV cutL
        rw [List.length_map, ← List.map_drop, ← List.map_take]
      rw [e]
      exact rep_ints _
    | tup xs =>
      have rd : Rep κ F3 _ _ := rd
      have rd0 := rd
      unfold Rep at rd
      obtain ⟨a, vs, rfl, h, rl⟩ := rd
      refine .inr (.inl ⟨a, vs, rfl, by rw [C.hK]; exact (same_t p3.env.sub h).sq, fun hw => ?_, fun hw p hn => Wants.tup (kr := fun r => k r ρ3) (fun r v F' H' hk p o => hq r ρ3 v F' H' hk p o) ((p1.trans p2).trans p3) (cut_rep rl l u) hn h3⟩)
      have e : cutL xs l u = xs := by
        unfold cutL
        rw [rl.len, hw.1, hw.2, List.drop_zero, Nat.sub_zero, ← rl.len, List.take_length]
      have h3 : k (.val (.tup (cutL xs l u))) ρ3 := h3
      rw [e] at h3
      exact hq _ ρ3 _ F3 H3 h3 ((p1.trans p2).trans p3) rd0
    | str z =>
      cases rd
      exact .inr (.inr ⟨z, rfl, h3.1, hq _ ρ3 _ F3 H3 h3.2 ((p1.trans p2).trans p3) rfl⟩)
    | _ => exact h3.elim
theorem c_rev (C : CtxOk κ k X T B xk) (hf : ∀ e, PE X e (tE κ B (dE n T xk) e)) {o st : Expr} {p2 pos : Pos} : PE X (.Subscript o (.Slice none none (some st) p2) pos) (tE κ B (dE (n + 1) T xk) (.Subscript o (.Slice none none (some st) p2) pos)) := by
  by_cases hr : revStep (some st) = true
  · unfold revStep at hr
    split at hr
    · rename_i a b c e
      cases e
      refine PE.imp (pe_revL (hf o)) fun σ H Q ⟨F, ρ, k, en, hd, hq⟩ => ⟨F, ρ, _, en, hd.2, fun ro ρ1 v1 F1 H1 h1 p1 o1 => ?_⟩
      cases hl : look ρ1 ro with
      | none => rw [hl] at h1; exact h1.elim
      | some d =>
        rw [hl] at h1
        have rd := o1.rd p1.env hl
        cases d with
        | lst xs =>
          obtain ⟨a, vs, rfl, h, rl⟩ := rd
          exact ⟨a, vs, rfl, SqL.of h, fun p hn => Wants.lst (kr := fun r => k r ρ1) (fun r v F' H' hk p o => hq r ρ1 v F' H' hk p o) p1 (rep_rev rl) hn h1⟩
        | _ => exact h1.elim
    · cases hr
  · exact PE.no fun σ H Q ⟨F, ρ, k, en, hd, hq⟩ => hr hd.1
theorem c_sub (C : CtxOk κ k X T B xk) (hf : ∀ e, PE X e (tE κ B (dE n T xk) e)) {o i : Expr} {pos : Pos} : PE X (.Subscript o i pos) (tE κ B (dE (n + 1) T xk) (.Subscript o i pos)) := by
  cases i with
  | Slice lo hi st p2 =>
    cases st with
    | none => exact c_slice C hf
    | some st =>
      cases lo with
      | none =>
        cases hi with
        | none => exact c_rev C hf
        | some _ => exact PE.no fun σ H Q ⟨F, ρ, k, en, hd, hq⟩ => hd
      | some _ => exact PE.no fun σ H Q ⟨F, ρ, k, en, hd, hq⟩ => hd
  | _ => exact c_ix C hf rfl
end
end DL

set_option Elab.async false
set_option linter.all false
set_option maxRecDepth 100000
set_option maxHeartbeats 1000000
/-! DL8: calls. -/
namespace DL
open PySem PySem.Spec PyProof.Rows L2

section
variable {κ : KB} {k : Nat} {X : Cx} {T : Tab} {B : Hp} {xk : DX → Prop} {n : Nat}

/-! ### lists lent to a call -/
theorem Rep.drop {F F' : Hp} {ps : List Addr} (hps : ∀ a ∈ ps, ∃ vs, F a = some (.lst vs)) (hF : ∀ a, a ∉ ps → F' a = F a) : (∀ (d : D) (v : V), noLst d = true → Rep κ F d v → Rep κ F' d v) ∧ ∀ (ds : List D) (vs : List V), noLstL ds = true → RepL κ F ds vs → RepL κ F' ds vs := by
  have keep : ∀ {a : Addr} {o : HO}, F a = some o → (∀ vs, o ≠ .lst vs) → F' a = some o := fun {a o} h hn => by
    rw [hF a fun z => by obtain ⟨vs, e⟩ := hps a z; rw [h] at e; cases e; exact hn vs rfl]; exact h
  have key : ∀ m : Nat, (∀ (d : D) (v : V), sizeOf d < m → noLst d = true → Rep κ F d v → Rep κ F' d v) ∧ ∀ (ds : List D) (vs : List V), sizeOf ds < m → noLstL ds = true → RepL κ F ds vs → RepL κ F' ds vs := fun m => by
    induction m with
    | zero => exact ⟨fun d v h => absurd h (Nat.not_lt_zero _), fun d v h => absurd h (Nat.not_lt_zero _)⟩
    | succ m ih =>
      refine ⟨fun d v hm hn h => ?_, fun ds vs hm hn h => ?_⟩
      · cases d with
        | lst ds => cases hn
        | tup ds =>
          unfold Rep at h ⊢
          obtain ⟨p, vs, h1, h2, h3⟩ := h
          refine ⟨p, vs, h1, ?_, ih.2 ds vs (by simp at hm; omega) hn h3⟩
          rcases h2 with h2 | h2
          · exact .inl (keep h2 fun _ z => nomatch z)
          · exact .inr h2
        | dic ks ds =>
          unfold Rep at h ⊢
          obtain ⟨p, vs, h1, h2, h3, h4⟩ := h
          exact ⟨p, vs, h1, keep h2 (fun _ z => nomatch z), h3, ih.2 ds vs (by simp at hm; omega) hn h4⟩
        | obj c ns ds =>
          unfold Rep at h ⊢
          obtain ⟨p, dx, vs, h1, h2, h3, h4⟩ := h
          exact ⟨p, dx, vs, h1, keep h2 (fun _ z => nomatch z), h3, ih.2 ds vs (by simp at hm; omega) hn h4⟩
        | box k =>
          unfold Rep at h ⊢
          obtain ⟨p, h1, h2⟩ := h
          exact ⟨p, h1, keep h2 fun _ z => nomatch z⟩
        | src =>
          unfold Rep at h ⊢
          obtain ⟨p, q, h1, h2, h3⟩ := h
          exact ⟨p, q, h1, keep h2 (fun _ z => nomatch z), keep h3 (fun _ z => nomatch z)⟩
        | scr ns =>
          unfold Rep at h ⊢
          obtain ⟨p, h1, h2⟩ := h
          refine ⟨p, h1, ?_⟩
          rcases h2 with ⟨o, h2⟩ | h2
          · exact .inl ⟨o, keep h2 fun _ z => nomatch z⟩
          · exact .inr h2
        | _ => simpa only [Rep] using h
      · cases ds with
        | nil => unfold RepL at h ⊢; exact h
        | cons d ds =>
          obtain ⟨v, r, rfl, h2, h3⟩ := h.cons_inv
          have hn : (noLst d && noLstL ds) = true := hn
          rw [Bool.and_eq_true] at hn
          exact .cons (ih.1 d v (by simp at hm; omega) hn.1 h2) (ih.2 ds r (by simp at hm; omega) hn.2 h3)
  exact ⟨fun d v => (key (sizeOf d + 1)).1 d v (Nat.lt_succ_self _), fun ds vs => (key (sizeOf ds + 1)).2 ds vs (Nat.lt_succ_self _)⟩
def tLs (κ : KB) (B : Hp) (f : Expr → Env' → KR → Prop) (es : List Expr) : TA := fun σ H Q => ∃ (F : Hp) (ρ : Env') (k : KRs), EnvOk κ B F H σ ρ ∧ dLs f es ρ k ∧ ∀ rs ρ' vs F' H', k rs ρ' → Post κ B F H σ ρ F' H' ρ' → RsW κ B H F' H' σ ρ' rs vs → Q vs H'
theorem pa_L {f : Expr → Env' → KR → Prop} (hf : ∀ e, PE X e (tE κ B f e)) (hs : ∀ e ρ k, f e ρ k → isStar e = false) : ∀ es, PA X es (tLs κ B f es)
  | [] => PA.imp pa_nil fun σ H Q ⟨F, ρ, k, e, hk, hq⟩ => hq [] ρ [] F H hk (.refl e) .nil
  | e :: es => by
    cases hst : isStar e with
    | true => exact PA.no fun σ H Q ⟨F, ρ, k, _, hk, _⟩ => by rw [hs e ρ _ hk] at hst; cases hst
    | false =>
      refine PA.imp (pa_cons (hf e) (pa_L hf hs es) (star_cons hst es X.env)) fun σ H Q ⟨F, ρ, k, en, hk, hq⟩ => ?_
      refine ⟨F, ρ, _, en, hk, fun r ρ1 v F1 H1 h1 p1 o1 => ?_⟩
      cases r with
      | slot i => exact ⟨F1, ρ1, _, p1.env, h1, fun rs ρ2 vs F2 H2 h2 p2 o2 => hq (.slot i :: rs) ρ2 (v :: vs) F2 H2 h2 (p1.trans p2) (.cons (fun d e => o1.post p2 e) (o2.back p1))⟩
      | val d => exact ⟨F1, ρ1, _, p1.env, h1, fun rs ρ2 vs F2 H2 h2 p2 o2 => hq (.val d :: rs) ρ2 (v :: vs) F2 H2 h2 (p1.trans p2) (.cons (fun d e => o1.post p2 e) (o2.back p1))⟩
      | new d =>
        obtain ⟨F1', p1', rp⟩ := o1.frz p1 (d := d) (ρ1 := ρ1) rfl
        exact ⟨F1', ρ1, _, p1'.env, h1, fun rs ρ2 vs F2 H2 h2 p2 o2 => hq (.val d :: rs) ρ2 (v :: vs) F2 H2 h2 (p1'.trans p2) (.cons (fun d' e => rp.mono p2.exF) (o2.back p1'))⟩
/-- the lent lists' places -/
theorem lent_rep {B F H H0 : Hp} {σ : L2.St} {ρ : Env'} (en : EnvOk κ B F H σ ρ) : ∀ {rs : List R} {vs : List V} {ds : List D}, RsW κ B H0 F H σ ρ rs vs → looks ρ rs = some ds → lentOk rs ds = true →
    ∃ ps : List Addr, (∀ a ∈ ps, F a = none ∧ ∃ ws, H a = some (.lst ws)) ∧ (rs.any slotR = false → ps = []) ∧ ∀ F2 : Hp, Same F F2 → (∀ a ∈ ps, F2 a = H a) → RepL κ F2 ds vs
  | [], _, _, h, e, _ => by
    cases h; cases e
    exact ⟨[], (fun a h => by cases h), fun _ => rfl, fun F2 _ _ => .nil⟩
  | r :: rs, _, ds, h, e, ok => by
    cases h with
    | @cons _ v _ vs h t =>
      unfold looks at e
      cases e1 : look ρ r with
      | none => rw [e1] at e; cases e
      | some d =>
        cases e2 : looks ρ rs with
        | none => rw [e1, e2] at e; cases e
        | some ds' =>
          rw [e1, e2] at e
          cases e
          cases r with
          | new _ => cases ok
          | val d' =>
            cases e1
            obtain ⟨ps, h1, h2, h3⟩ := lent_rep en t e2 ok
            refine ⟨ps, h1, fun z => h2 ?_, fun F2 s hp => .cons (Rep.mono s _ _ (h _ rfl)) (h3 F2 s hp)⟩
            rw [List.any_cons, Bool.or_eq_false_iff] at z
            exact z.2
          | slot i =>
            cases d with
            | lst xs =>
              obtain ⟨ps, h1, h2, h3⟩ := lent_rep en t e2 ok
              obtain ⟨p, a1, a2, a3, ws, a4, a5⟩ := en.ow i _ (look_slot e1)
              have ev := (h _ e1).2
              rw [a1] at ev; cases ev
              refine ⟨p :: ps, fun a ha => ?_, fun z => ?_, fun F2 s hp => .cons ?_ (h3 F2 s fun a ha => hp a (List.mem_cons_of_mem _ ha))⟩
              · rcases List.mem_cons.mp ha with rfl | ha
                · exact ⟨a2, ws, a4⟩
                · exact h1 a ha
              · rw [List.any_cons, Bool.or_eq_false_iff] at z
                cases z.1
              · unfold Rep
                exact ⟨p, ws, rfl, by rw [hp p (List.mem_cons_self ..)]; exact a4, a5.mono s⟩
            | _ => cases ok
theorem sp_lend {sm : Sm} {F H F1 H1 : Hp} {σ : L2.St} {ρ ρ1 : Env'} {rs : List R} {ds : List D} {vs : List V} {k : KR} {Q : VK} (h : sm ds (lentK rs ρ1 k) xk) (p : Post κ B F H σ ρ F1 H1 ρ1) (o : RsW κ B H F1 H1 σ ρ1 rs vs) (e : looks ρ1 rs = some ds) (ok : lentOk rs ds = true)
    (hq : ∀ d v F' H', k (.val d) ρ1 → Post κ B F H σ ρ F' H' ρ1 → Rep κ F' d v → Q v H') : ∃ F2 : Hp, Same F1 F2 ∧ Same F2 H1 ∧ RepL κ F2 ds vs ∧ ∀ d v F' H', lentK rs ρ1 k d → Same H1 H' → Same F2 F' → Same F' H' → (∀ a, F2 a = none → F' a ≠ none → H1 a = none) → Rep κ F' d v → Q v H' := by
  obtain ⟨ps, h1, h2, h3⟩ := lent_rep p.env o e ok
  have sF : Same F1 (fun a => if a ∈ ps then H1 a else F1 a) := fun a u ha => by
    have : a ∉ ps := fun z => by rw [(h1 a z).1] at ha; cases ha
    show (if a ∈ ps then H1 a else F1 a) = _
    rw [if_neg this]; exact ha
  refine ⟨fun a => if a ∈ ps then H1 a else F1 a, sF, fun a u ha => ?_, h3 _ sF fun a ha => if_pos ha, fun d v F' H' hk sH sF2 sF3 nw rp => ?_⟩
  · by_cases z : a ∈ ps
    · have ha : (if a ∈ ps then H1 a else F1 a) = some u := ha
      rw [if_pos z] at ha; exact ha
    · have ha : (if a ∈ ps then H1 a else F1 a) = some u := ha
      rw [if_neg z] at ha; exact p.env.sub a u ha
  · have hps : ∀ a ∈ ps, ∃ ws, F' a = some (.lst ws) := fun a ha => by
      obtain ⟨_, ws, hw⟩ := h1 a ha
      exact ⟨ws, sF2 a _ (by show (if a ∈ ps then H1 a else F1 a) = _; rw [if_pos ha]; exact hw)⟩
    have post : Post κ B F1 H1 σ ρ1 (fun a => if a ∈ ps then none else F' a) H' ρ1 := by
      refine Post.grow p.env sH (fun a u ha => ?_) (fun a u ha => ?_) fun a ha hb => ?_
      · have : a ∉ ps := fun z => by rw [(h1 a z).1] at ha; cases ha
        show (if a ∈ ps then none else F' a) = _
        rw [if_neg this]; exact sF2 a u (sF a u ha)
      · by_cases z : a ∈ ps
        · have ha : (if a ∈ ps then none else F' a) = some u := ha
          rw [if_pos z] at ha; cases ha
        · have ha : (if a ∈ ps then none else F' a) = some u := ha
          rw [if_neg z] at ha; exact sF3 a u ha
      · by_cases z : a ∈ ps
        · exact absurd (if_pos z) hb
        · refine nw a ?_ fun q => hb ?_
          · show (if a ∈ ps then H1 a else F1 a) = none
            rw [if_neg z]; exact ha
          · show (if a ∈ ps then none else F' a) = none
            rw [if_neg z]; exact q
    unfold lentK at hk
    split at hk
    · exact hq d v _ H' hk.2 (p.trans post) ((Rep.drop hps (F' := fun a => if a ∈ ps then none else F' a) fun a ha => if_neg ha).1 d v hk.1 rp)
    · rename_i hs
      have hs : rs.any slotR = false := by simpa using hs
      have e0 := h2 hs
      subst e0
      refine hq d v _ H' hk (p.trans post) ?_
      have ef : (fun a => if a ∈ ([] : List Addr) then none else F' a) = F' := funext fun a => if_neg (by simp)
      rw [ef]; exact rp
theorem sp_callL {sm : Sm} {F H F1 H1 : Hp} {σ : L2.St} {ρ ρ1 : Env'} {rs : List R} {ds : List D} {vs : List V} {k : KR} {Q : VK} (h : sm ds (lentK rs ρ1 k) xk) (p : Post κ B F H σ ρ F1 H1 ρ1) (o : RsW κ B H F1 H1 σ ρ1 rs vs) (e : looks ρ1 rs = some ds) (ok : lentOk rs ds = true)
    (hq : ∀ d v F' H', k (.val d) ρ1 → Post κ B F H σ ρ F' H' ρ1 → Rep κ F' d v → Q v H') : spOf κ sm (vs ++ []) H1 Q (xOut κ B xk) := by
  rw [List.append_nil]
  obtain ⟨F2, s1, s2, r, fin⟩ := sp_lend h p o e ok hq
  exact ⟨F2, ds, _, xk, s2, r, h, fin, fun x Cv dx F' H' hkx s1 s3 xr => ⟨x, F', hkx, p.env.bas.trans s1, s3, xr⟩⟩
theorem c_fn (C : CtxOk κ k X T B xk) (hf : ∀ e, PE X e (tE κ B (dE n T xk) e)) {x : Str} {p pos : Pos} {args : List Expr} {sm : Sm} (hb : badName x = false) (hg : Gl X x) (hgv : T.g.lookup x = some (.fn sm)) (hst : args.any isStar = false) :
    PE X (.Call (.Name x p) args [] pos) (tE κ B (fun _ ρ k => dVs (dE n T xk) args ρ fun ds ρ1 => sm ds (fun d => k (.val d) ρ1) xk) (.Call (.Name x p) args [] pos)) := by
  obtain ⟨a, fd, ps, j, h1, h2, h3, h4, h5⟩ := C.glb x _ hgv
  have pa := pa_V hf (fun e ρ k h => dE_noStar h) args
  cases args with
  | nil =>
    refine PE.imp (pe_callG0 h4 (C.room.mono h5) C.guards hg h1 h2 h3 .nil C.passes (bad_inv hb).1) fun σ H Q ⟨F, ρ, k, en, hd, hq⟩ => ?_
    exact sp_call (vs := []) (kd := fun d => k (.val d) ρ) hd (.refl en) .nil fun d v F' H' hkd p r => hq _ ρ v F' H' hkd p r
  | cons e es =>
    rw [List.any_cons, Bool.or_eq_false_iff] at hst
    refine PE.imp (pe_callG h4 (C.room.mono h5) C.guards hg h1 h2 h3 .nil C.passes pa (bad_inv hb).1 (star_cons hst.1 es X.env) (star_any hst.2 pos X.env)) fun σ H Q ⟨F, ρ, k, en, hd, hq⟩ => ?_
    exact ⟨F, ρ, _, en, hd, fun ds ρ1 vs F1 H1 h1 p1 o1 => sp_call h1 p1 o1 fun d v F' H' hkd p r => hq _ ρ1 v F' H' hkd p r⟩
theorem c_fnL (C : CtxOk κ k X T B xk) (hf : ∀ e, PE X e (tE κ B (dE n T xk) e)) {x : Str} {p pos : Pos} {args : List Expr} {sm : Sm} (hb : badName x = false) (hg : Gl X x) (hgv : T.g.lookup x = some (.fn sm)) (hst : args.any isStar = false) :
    PE X (.Call (.Name x p) args [] pos) (tE κ B (fun _ ρ k => dLend (dE n T xk) args ρ k fun ds kd => sm ds kd xk) (.Call (.Name x p) args [] pos)) := by
  obtain ⟨a, fd, ps, j, h1, h2, h3, h4, h5⟩ := C.glb x _ hgv
  have pa := pa_L hf (fun e ρ k h => dE_noStar h) args
  cases args with
  | nil =>
    refine PE.imp (pe_callG0 h4 (C.room.mono h5) C.guards hg h1 h2 h3 .nil C.passes (bad_inv hb).1) fun σ H Q ⟨F, ρ, k, en, hd, hq⟩ => ?_
    exact sp_callL (vs := []) (k := k) hd.2 (.refl en) .nil rfl rfl fun d v F' H' hkd p r => hq _ ρ v F' H' hkd p r
  | cons e es =>
    rw [List.any_cons, Bool.or_eq_false_iff] at hst
    refine PE.imp (pe_callG h4 (C.room.mono h5) C.guards hg h1 h2 h3 .nil C.passes pa (bad_inv hb).1 (star_cons hst.1 es X.env) (star_any hst.2 pos X.env)) fun σ H Q ⟨F, ρ, k, en, hd, hq⟩ => ?_
    refine ⟨F, ρ, _, en, hd, fun rs ρ1 vs F1 H1 h1 p1 o1 => ?_⟩
    cases e2 : looks ρ1 rs with
    | none => rw [e2] at h1; exact h1.elim
    | some ds =>
      rw [e2] at h1
      exact sp_callL h1.2 p1 o1 e2 h1.1 fun d v F' H' hkd p r => hq _ ρ1 v F' H' hkd p r
theorem sp_make {c : Str} {sm : Sm} {F H F1 H1 : Hp} {σ : L2.St} {ρ ρ1 : Env'} {ds : List D} {vs : List V} {kd : D → Prop} {Q : VK} (h : sm ds kd xk) (p : Post κ B F H σ ρ F1 H1 ρ1) (r : RepL κ F1 ds vs)
    (hq : ∀ d v F' H', kd d → Post κ B F H σ ρ F' H' ρ1 → Rep κ F' d v → Q v H') (x dx : Addr) (hx : H1 x = none) (hdx : H1 dx = none) (hne : dx ≠ x) :
    spIn κ c sm (.ref x :: (vs ++ [])) (upd (upd H1 dx (.own x)) x (.ins (He.ga κ.K c) dx [])) (fun v H2 => v = .non ∧ Q (.ref x) H2) (xOut κ B xk) := by
  rw [List.append_nil]
  have up : ∀ a o, H1 a = some o → upd (upd H1 dx (.own x)) x (.ins (He.ga κ.K c) dx []) a = some o := fun a o e => by
    rw [upd_ne (ne_of_none e hx), upd_ne (ne_of_none e hdx)]; exact e
  have dn : ∀ a, upd (upd H1 dx (.own x)) x (.ins (He.ga κ.K c) dx []) a = none → H1 a = none := fun a e => by
    cases q : H1 a with
    | none => rfl
    | some o => rw [up a o q] at e; cases e
  refine ⟨x, dx, vs, F1, ds, kd, xk, rfl, upd_same, p.env.sub.free hx, fun a o e => up a o (p.env.sub a o e), r, h, fun ns xs F' H' us dx' hkd fr s1 s2 hF' nw hp hl rp => ⟨rfl, ?_⟩, fun z Cv dz F' H' hkx fr s3 xr => ⟨z, F', hkx, fun a o e => ?_, s3, xr⟩⟩
  · have sH : Same H1 H' := fun a o e => fr a o (ne_of_none e hx) (up a o e)
    have sF : Same F' (upd F' x (.ins (He.ga κ.K c) dx' (ns.zip us))) := same_new hF'
    refine hq _ _ (upd F' x (.ins (He.ga κ.K c) dx' (ns.zip us))) H' hkd (p.trans (Post.grow p.env sH (s1.trans sF) (same_upd2 s2 hp) fun a ha hb => ?_)) ?_
    · by_cases e : a = x
      · subst e; exact hx
      · rw [upd_ne e] at hb; exact dn a (nw a ha hb)
    · unfold Rep
      exact ⟨x, dx', us, rfl, upd_same, hl, rp.mono sF⟩
  · have e1 := p.env.bas a o e
    exact fr a o (ne_of_none e1 hx) (up a o e1)
theorem c_cls (C : CtxOk κ k X T B xk) (hf : ∀ e, PE X e (tE κ B (dE n T xk) e)) {x : Str} {p pos : Pos} {args : List Expr} {c : Str} {sm : Sm} (hb : badName x = false) (hg : Gl X x) (hgv : T.g.lookup x = some (.cls c sm)) (hst : args.any isStar = false) :
    PE X (.Call (.Name x p) args [] pos) (tE κ B (fun _ ρ k => dVs (dE n T xk) args ρ fun ds ρ1 => sm ds (fun d => k (.val d) ρ1) xk) (.Call (.Name x p) args [] pos)) := by
  obtain ⟨h1, fI, fd, ps, j, h2, h3, h4, h5⟩ := C.glb x _ hgv
  have pa := pa_V hf (fun e ρ k h => dE_noStar h) args
  cases args with
  | nil =>
    refine PE.imp (pe_makeG0 h2 h4 (C.room.mono h5) C.guards hg h1 h3 .nil C.passes (bad_inv hb).1) fun σ H Q ⟨F, ρ, k, en, hd, hq⟩ => fun y dy hy hdy hne => ?_
    exact sp_make (vs := []) (kd := fun d => k (.val d) ρ) hd (.refl en) .nil (fun d v F' H' hkd p r => hq _ ρ v F' H' hkd p r) y dy hy hdy hne
  | cons e es =>
    rw [List.any_cons, Bool.or_eq_false_iff] at hst
    refine PE.imp (pe_makeG h2 h4 (C.room.mono h5) C.guards hg h1 h3 .nil C.passes pa (bad_inv hb).1 (star_cons hst.1 es X.env) (star_any hst.2 pos X.env)) fun σ H Q ⟨F, ρ, k, en, hd, hq⟩ => ?_
    exact ⟨F, ρ, _, en, hd, fun ds ρ1 vs F1 H1 h1 p1 o1 y dy hy hdy hne => sp_make h1 p1 o1 (fun d v F' H' hkd p r => hq _ ρ1 v F' H' hkd p r) y dy hy hdy hne⟩

theorem sp_makeL {c : Str} {sm : Sm} {F H F1 H1 : Hp} {σ : L2.St} {ρ ρ1 : Env'} {rs : List R} {ds : List D} {vs : List V} {k : KR} {Q : VK} (h : sm ds (lentK rs ρ1 k) xk) (p : Post κ B F H σ ρ F1 H1 ρ1) (o : RsW κ B H F1 H1 σ ρ1 rs vs) (e : looks ρ1 rs = some ds) (ok : lentOk rs ds = true)
    (hq : ∀ d v F' H', k (.val d) ρ1 → Post κ B F H σ ρ F' H' ρ1 → Rep κ F' d v → Q v H') (x dx : Addr) (hx : H1 x = none) (hdx : H1 dx = none) (hne : dx ≠ x) :
    spIn κ c sm (.ref x :: (vs ++ [])) (upd (upd H1 dx (.own x)) x (.ins (He.ga κ.K c) dx [])) (fun v H2 => v = .non ∧ Q (.ref x) H2) (xOut κ B xk) := by
  rw [List.append_nil]
  have up : ∀ a o, H1 a = some o → upd (upd H1 dx (.own x)) x (.ins (He.ga κ.K c) dx []) a = some o := fun a o e => by
    rw [upd_ne (ne_of_none e hx), upd_ne (ne_of_none e hdx)]; exact e
  have dn : ∀ a, upd (upd H1 dx (.own x)) x (.ins (He.ga κ.K c) dx []) a = none → H1 a = none := fun a e => by
    cases q : H1 a with
    | none => rfl
    | some o => rw [up a o q] at e; cases e
  obtain ⟨F2, t1, t2, r, fin⟩ := sp_lend h p o e ok hq
  refine ⟨x, dx, vs, F2, ds, _, xk, rfl, upd_same, t2.free hx, fun a o e => up a o (t2 a o e), r, h, fun ns xs F' H' us dx' hkd fr s1 s2 hF' nw hp hl rp => ⟨rfl, ?_⟩, fun z Cv dz F' H' hkx fr s3 xr => ⟨z, F', hkx, fun a o e => ?_, s3, xr⟩⟩
  · have sH : Same H1 H' := fun a o e => fr a o (ne_of_none e hx) (up a o e)
    have sF : Same F' (upd F' x (.ins (He.ga κ.K c) dx' (ns.zip us))) := same_new hF'
    refine fin _ _ (upd F' x (.ins (He.ga κ.K c) dx' (ns.zip us))) H' hkd sH (s1.trans sF) (same_upd2 s2 hp) (fun a ha hb => ?_) ?_
    · by_cases e : a = x
      · subst e; exact hx
      · rw [upd_ne e] at hb; exact dn a (nw a ha hb)
    · unfold Rep
      exact ⟨x, dx', us, rfl, upd_same, hl, rp.mono sF⟩
  · have e1 := p.env.bas a o e
    exact fr a o (ne_of_none e1 hx) (up a o e1)
theorem c_clsL (C : CtxOk κ k X T B xk) (hf : ∀ e, PE X e (tE κ B (dE n T xk) e)) {x : Str} {p pos : Pos} {args : List Expr} {c : Str} {sm : Sm} (hb : badName x = false) (hg : Gl X x) (hgv : T.g.lookup x = some (.cls c sm)) (hst : args.any isStar = false) :
    PE X (.Call (.Name x p) args [] pos) (tE κ B (fun _ ρ k => dLend (dE n T xk) args ρ k fun ds kd => sm ds kd xk) (.Call (.Name x p) args [] pos)) := by
  obtain ⟨h1, fI, fd, ps, j, h2, h3, h4, h5⟩ := C.glb x _ hgv
  have pa := pa_L hf (fun e ρ k h => dE_noStar h) args
  cases args with
  | nil =>
    refine PE.imp (pe_makeG0 h2 h4 (C.room.mono h5) C.guards hg h1 h3 .nil C.passes (bad_inv hb).1) fun σ H Q ⟨F, ρ, k, en, hd, hq⟩ => fun y dy hy hdy hne => ?_
    exact sp_makeL (vs := []) (k := k) hd.2 (.refl en) .nil rfl rfl (fun d v F' H' hkd p r => hq _ ρ v F' H' hkd p r) y dy hy hdy hne
  | cons e es =>
    rw [List.any_cons, Bool.or_eq_false_iff] at hst
    refine PE.imp (pe_makeG h2 h4 (C.room.mono h5) C.guards hg h1 h3 .nil C.passes pa (bad_inv hb).1 (star_cons hst.1 es X.env) (star_any hst.2 pos X.env)) fun σ H Q ⟨F, ρ, k, en, hd, hq⟩ => ?_
    refine ⟨F, ρ, _, en, hd, fun rs ρ1 vs F1 H1 h1 p1 o1 y dy hy hdy hne => ?_⟩
    cases e2 : looks ρ1 rs with
    | none => rw [e2] at h1; exact h1.elim
    | some ds =>
      rw [e2] at h1
      exact sp_makeL h1.2 p1 o1 e2 h1.1 (fun d v F' H' hkd p r => hq _ ρ1 v F' H' hkd p r) y dy hy hdy hne

/-! ### built-in functions and types -/
theorem pe_callBW {x : Str} {p pos : Pos} {e : Expr} {es : List Expr} {id : String} {t : TA} (hg : Gl X x) (hm : X.mg x = none) (hv : bootBuiltins x = some (.builtin id)) (ha : PA X (e :: es) t) (hn : x ≠ "__name__") (hdb : (x == ("__debug__" : Str)) = false)
    (he : starEach (e :: es) X.env = (false, eval e X.env) :: starEach es X.env) (hpl : (backTo pos (starEach es X.env)).any (·.1) = false) :
    PE X (.Call (.Name x p) (e :: es) [] pos) (fun σ H Q => t σ H fun vs H1 => ∀ pins s us, Inv X pins σ H1 s → Vals vs us → wpAny (model X.prog X.w) X.A (call (.builtin id) us) (EP X pins σ Q) X.xe s) := by
  refine ⟨fun pins s σ H Q I h => ?_⟩
  refine wpAny_Call_Name_kw (ld_blt I hg hm hv ?_ hn hdb)
  exact PyProof.Rows.callWith_builtin1 (thn (ha.run pos pins s σ H _ I h) fun us s1 ⟨vs, H1, I1, r1, q1⟩ => q1 pins s1 us I1 r1) he hpl
theorem pe_callTyW {x : Str} {p pos : Pos} {e : Expr} {es : List Expr} {ty : String} {t : TA} (hg : Gl X x) (hm : X.mg x = none) (hv : bootBuiltins x = some (.type ty)) (ha : PA X (e :: es) t) (hn : x ≠ "__name__") (hdb : (x == ("__debug__" : Str)) = false)
    (he : starEach (e :: es) X.env = (false, eval e X.env) :: starEach es X.env) (hpl : (backTo pos (starEach es X.env)).any (·.1) = false) :
    PE X (.Call (.Name x p) (e :: es) [] pos) (fun σ H Q => t σ H fun vs H1 => ∀ pins s us, Inv X pins σ H1 s → Vals vs us → wpAny (model X.prog X.w) X.A (call (.type ty) us) (EP X pins σ Q) X.xe s) := by
  refine ⟨fun pins s σ H Q I h => ?_⟩
  refine wpAny_Call_Name_kw (ld_blt I hg hm hv ?_ hn hdb)
  exact PyProof.Rows.callWith_type1 (thn (ha.run pos pins s σ H _ I h) fun us s1 ⟨vs, H1, I1, r1, q1⟩ => q1 pins s1 us I1 r1) he hpl
theorem RdL.one {F H : Hp} {d : D} {vs : List V} (h : RdL κ F H [d] vs) : ∃ v, vs = [v] ∧ RdAt κ F H d v := by
  cases h with
  | cons h t => cases t; exact ⟨_, rfl, h⟩
theorem RdL.two {F H : Hp} {d e : D} {vs : List V} (h : RdL κ F H [d, e] vs) : ∃ v w, vs = [v, w] ∧ RdAt κ F H d v ∧ RdAt κ F H e w := by
  cases h with
  | cons h t => cases t with
    | cons h' t' => cases t'; exact ⟨_, _, rfl, h, h'⟩
theorem bools_of {F : Hp} : ∀ {ds : List D} {vs : List V} {bs : List Bool}, RepL κ F ds vs → bools ds = some bs → vs = bs.map V.bl
  | [], _, _, h, e => by cases e; rw [h.nil_inv]; rfl
  | d :: ds, _, _, h, e => by
    obtain ⟨v, r, rfl, h1, h2⟩ := h.cons_inv
    cases d with
    | bl b =>
      unfold bools at e
      obtain ⟨bs', e1, rfl⟩ := Option.map_eq_some_iff.mp e
      cases h1
      rw [bools_of h2 e1]; rfl
    | _ => cases e
theorem ty_of {F H : Hp} {d : D} {v : V} {t : TyN} (hK : X.K = κ.K) (sF : Same F H) (h : RdAt κ F H d v) (e : tyN d = some t) (hc : ∀ c, t = .inr c → ClsI X.K (He.ga κ.K c)) : TyX X.K H v (tyVal κ t) := by
  cases d with
  | non => cases e; cases h; exact .base .non
  | bl _ => cases e; cases h; exact .base (.bl _)
  | int _ => cases e; cases h; exact .base (.int _)
  | str _ => cases e; cases h; exact .base (.str _)
  | lst _ => cases e; obtain ⟨p, vs, rfl, a, b⟩ := h; exact .base (.lst a)
  | tup _ =>
    cases e
    have h : Rep κ F _ _ := h
    unfold Rep at h
    obtain ⟨p, vs, rfl, a, b⟩ := h
    rcases a with a | ⟨o, its, n, a1, a2, _⟩
    · exact .base (.tup (sF _ _ a))
    · exact .kTuple (by rw [hK]; exact a1) a2
  | obj c _ _ =>
    cases e
    obtain ⟨p, dx, vs, rfl, a, b⟩ := h
    have q := hc c rfl
    exact .base (.ins a q.cl q.ha q.hn q.htk q.hm)
  | _ => cases e
theorem cl_of {F : Hp} {d : D} {v : V} {c : TyN} (h : Rep κ F d v) (e : clN d = some c) : ClsV v (tyVal κ c) := by
  cases d with
  | ty n => cases e; cases h; exact .ty n
  | cl c => cases e; cases h; exact .own _
  | _ => cases e
theorem cls_of {F : Hp} {isa : List ((TyN × TyN) × Bool)} {t : TyN} (hi : ∀ c b, isi1 isa t c = some b → PySem.W.kitOne X.K (tyVal κ t) (tyVal κ c) = some b) : ∀ {ds : List D} {vs : List V} {b : Bool}, RepL κ F ds vs → isiAny isa t ds = some b →
    ∃ us, Paired ClsV vs us ∧ PySem.W.kitAny X.K (tyVal κ t) us = some b
  | [], _, _, h, e => by cases e; rw [h.nil_inv]; exact ⟨[], .nil, rfl⟩
  | d :: ds, _, b, h, e => by
    obtain ⟨v, r, rfl, h1, h2⟩ := h.cons_inv
    unfold isiAny at e
    cases ec : clN d with
    | none => rw [ec] at e; cases e
    | some c =>
      cases er : isiAny isa t ds with
      | none => rw [ec, er] at e; cases e
      | some r' =>
        obtain ⟨us, q1, q2⟩ := cls_of hi h2 er
        rw [ec, er] at e
        have e : (match isi1 isa t c with
          | some b => some (b || r')
          | none => none) = some b := e
        cases ei : isi1 isa t c with
        | none => rw [ei] at e; cases e
        | some b' =>
          rw [ei] at e
          have e : some (b' || r') = some b := e
          cases e
          refine ⟨tyVal κ c :: us, .cons (cl_of h1 ec) q1, kitAny_cons (hi c b' ei) (fun z => ?_) fun z => ?_⟩
          · rw [z]; exact q2
          · rw [z]; rfl
theorem dIsi_ok (C : CtxOk κ k X T B xk) {F H : Hp} {σ : L2.St} {d c : D} {v w : V} {b : Bool} {Q : VK} {pins : List (Addr × Obj)} {s : Shared} {us : List Value} (I : Inv X pins σ H s) (r : Vals [v, w] us) (hd : RdAt κ F H d v) (hc : RdAt κ F H c w) (sF : Same F H)
    (e : dIsi T.isa d c = some b) (hq : Q (.bl b) H) : wpAny (model X.prog X.w) X.A (call (.builtin "isinstance") us) (EP X pins σ Q) X.xe s := by
  unfold dIsi at e
  cases et : tyN d with
  | none => rw [et] at e; cases e
  | some t =>
    rw [et] at e
    have one : ∀ tc, clN c = some tc → isi1 T.isa t tc = some b → Rep κ F c w → wpAny (model X.prog X.w) X.A (call (.builtin "isinstance") us) (EP X pins σ Q) X.xe s := fun tc e1 e2 rc => by
      obtain ⟨k1, k2⟩ := C.isa t tc b e2
      exact call_isi pins s σ H [v, w] us Q I r ⟨v, w, _, _, b, rfl, cl_of rc e1, ty_of C.hK sF hd et k2, k1, hq⟩
    cases c with
    | ty n => exact one _ rfl e hc
    | cl c' => exact one _ rfl e hc
    | tup cs =>
      have hc : Rep κ F _ _ := hc
      unfold Rep at hc
      obtain ⟨p, vs, rfl, a, rl⟩ := hc
      cases cs with
      | nil => cases e
      | cons c0 cs0 =>
      have e : isiAny T.isa t (c0 :: cs0) = some b := e
      obtain ⟨us', q1, q2⟩ := cls_of (X := X) (fun c b h => (C.isa t c b h).1) rl e
      have tx : TyX X.K H v (tyVal κ t) := by
          unfold isiAny at e
          cases e0 : clN c0 with
          | none => rw [e0] at e; cases e
          | some c1 =>
            cases e1 : isiAny T.isa t cs0 with
            | none => rw [e0, e1] at e; cases e
            | some r1 =>
              rw [e0, e1] at e
              have e : (match isi1 T.isa t c1 with
                | some b => some (b || r1)
                | none => none) = some b := e
              cases e2 : isi1 T.isa t c1 with
              | none => rw [e2] at e; cases e
              | some b2 => exact ty_of C.hK sF hd et (C.isa t c1 b2 e2).2
      rcases a with a | ⟨o, its, m, a1, a2, a3, a4, a5⟩
      · exact call_isiT pins s σ H [v, .ref p] us Q I r ⟨v, p, vs, _, us', b, rfl, sF _ _ a, q1, tx, q2, hq⟩
      · obtain ⟨oc, od, dt, sl⟩ := o
        have a2 : oc = .type "tuple" := a2
        have a3 : dt = .seq its m := a3
        subst a2 a3
        have e5 : its.toList = us' := ClsV.all q1 a5
        refine call_isiK pins s σ H [v, .ref p] us Q I r ⟨v, p, od, us', m, sl, _, b, rfl, ?_, tx, q2, hq⟩
        rw [C.hK, ← e5]
        exact a1
    | _ => cases e
theorem blt_boot {x : Str} {id : String} (h : bltIds.lookup x = some id) : bootBuiltins x = some (.builtin id) ∧ x ≠ ("__name__" : Str) := by
  have : (x, id) ∈ bltIds := PySem.mem_of_lookup h
  have all : ∀ p ∈ bltIds, bootBuiltins p.1 = some (.builtin p.2) ∧ p.1 ≠ ("__name__" : Str) := by decide +kernel
  exact all _ this
mutual
theorem dp_nd {K : PySem.W.Frag} {H : Hp} : ∀ {v : V} {q : PyData}, Dp K H v q → q.hasDict = false
  | _, _, .non => rfl
  | _, _, .bl _ => rfl
  | _, _, .int _ => rfl
  | _, _, .str _ => rfl
  | _, _, .lst _ b => by simp only [PyData.hasDict]; exact dpAll_nd b
  | _, _, .tup _ b => by simp only [PyData.hasDict]; exact dpAll_nd b
theorem dpAll_nd {K : PySem.W.Frag} {H : Hp} : ∀ {vs : List V} {qs : List PyData}, DpAll K H vs qs → PyData.hasDictAll qs = false
  | _, _, .nil => rfl
  | _, _, .cons a b => by simp only [PyData.hasDictAll, dp_nd a, dpAll_nd b, Bool.or_false]
end
theorem repr_ok {H : Hp} {σ : L2.St} {v : V} {u : Value} {q : PyData} {Q : VK} {pins : List (Addr × Obj)} {s : Shared} (hg : X.A.guards = some []) (hu : X.A.units + 200 < cLine) (I : Inv X pins σ H s) (r : RelV v u) (hd : Dp X.K H v q) (h1 : q.showable = true) (h2 : q.depth ≤ 64)
    (h3 : q.shown.length ≤ sizeLine) (hq : Q (.str q.shown) H) : wpAny (model X.prog X.w) X.A (call (.builtin "repr") [u]) (EP X pins σ Q) X.xe s := by
  cases hd with
  | non => cases r; exact PySem.P.repr_of_none ⟨.str _, H, I.tok _, ⟨_, rfl⟩, hq⟩
  | bl b => cases r; exact PySem.P.repr_of_bool ⟨.str _, H, I.tok _, ⟨_, rfl⟩, hq⟩
  | int i => obtain ⟨t, rfl⟩ := r; exact PySem.P.repr_of_int (of_decide_eq_true h1) ⟨.str _, H, I.tok _, ⟨_, rfl⟩, hq⟩
  | str x => obtain ⟨t, rfl⟩ := r; exact PySem.P.repr_of_str ⟨.str _, H, I.tok _, ⟨_, rfl⟩, hq⟩ h3
  | lst a b =>
    obtain ⟨as, rd⟩ := Dp.reads I _ _ u (.lst a b) r
    cases r
    exact repr_of_reads' rd h1 (PyData.noDict_hsm (dp_nd (.lst a b))) hg (by omega) (fun _ _ e => e) (fun h' u tk hk => ⟨.str _, H, I.kept hk, ⟨_, rfl⟩, hq⟩) h3
  | tup a b =>
    obtain ⟨as, rd⟩ := Dp.reads I _ _ u (.tup a b) r
    cases r
    exact repr_of_reads' rd h1 (PyData.noDict_hsm (dp_nd (.tup a b))) hg (by omega) (fun _ _ e => e) (fun h' u tk hk => ⟨.str _, H, I.kept hk, ⟨_, rfl⟩, hq⟩) h3
theorem len_dic {H : Hp} {σ : L2.St} {a : Addr} {ks : List (Option Key)} {ws : List V} {us : List Value} {Q : VK} {pins : List (Addr × Obj)} {s : Shared} (hnd : κ.nd = ndP X.prog X.w) (I : Inv X pins σ H s) (r : Vals [.ref a] us) (h : H a = some (.ext (κ.nd a ks ws))) (hl : ks.length = ws.length)
    (q : Q (.int ks.length) H) : wpAny (model X.prog X.w) X.A (call (.builtin "len") us) (EP X pins σ Q) X.xe s := by
  cases r with
  | cons h1 h2 =>
    cases h2
    cases h1
    have z := I.hok _ _ h
    rw [hnd] at z
    obtain ⟨⟨z1, z2, z3, vs, rv, dd⟩, _, _⟩ := z
    have hsz := sizeLine_eq
    have hz : (ks.zip vs).length = ks.length := by rw [List.length_zip, ← rv.length]; omega
    refine call_len_dict z2 dd (by rw [hz]; omega) ⟨_, _, I.tok _, ?_, q⟩
    rw [hz]
    exact ⟨_, rfl⟩
theorem dBlt_ok (C : CtxOk κ k X T B xk) {F H F0 H0 : Hp} {σ : L2.St} {ρ0 ρ : Env'} {ds : List D} {vs : List V} {id : String} {kr : R → Prop} {Q : VK} {pins : List (Addr × Obj)} {s : Shared} {us : List Value} (I : Inv X pins σ H s) (r : Vals vs us)
    (hr : RdL κ F H ds vs) (p : Post κ B F0 H0 σ ρ0 F H ρ) (hd : dBlt T id ds kr) (hq : Wants κ B F0 H0 σ ρ0 ρ kr Q) : wpAny (model X.prog X.w) X.A (call (.builtin id) us) (EP X pins σ Q) X.xe s := by
  unfold dBlt at hd
  split at hd
  · -- len
    split at hd
    · obtain ⟨v, rfl, h⟩ := hr.one; cases h
      exact call_len_str pins s σ H _ us Q I r ⟨_, rfl, hd.1, hq.val p hd.2 rfl⟩
    · obtain ⟨v, rfl, a, ws, rfl, h, rl⟩ := hr.one
      refine call_len_seq pins s σ H _ us Q I r ⟨a, ws, rfl, .inl (SqL.of h), ?_⟩
      rw [← rl.len]; exact hq.val p hd rfl
    · obtain ⟨v, rfl, h⟩ := hr.one
      have h : Rep κ F _ _ := h
      unfold Rep at h
      obtain ⟨a, ws, rfl, h, rl⟩ := h
      refine call_len_seq pins s σ H _ us Q I r ⟨a, ws, rfl, .inr (by rw [C.hK]; exact (same_t p.env.sub h).sq), ?_⟩
      rw [← rl.len]; exact hq.val p hd rfl
    · obtain ⟨v, rfl, h⟩ := hr.one
      have h : Rep κ F _ _ := h
      unfold Rep at h
      obtain ⟨a, rfl, h'⟩ := h
      refine call_len_seq pins s σ H _ us Q I r ⟨a, _, rfl, .inl (by rw [C.hK]; exact (ScrT.same p.env.sub h').sq), ?_⟩
      rw [List.length_map]; exact hq.val p hd rfl
    · obtain ⟨v, rfl, a, ws, rfl, h, hl, rl⟩ := hr.one
      exact len_dic C.hnd I r h (by rw [hl, rl.len]) (hq.val p hd rfl)
    · exact hd.elim
  · split at hd
    · split at hd
      · obtain ⟨v, w, rfl, h1, h2⟩ := hr.two
        rename_i e
        exact dIsi_ok C I r h1 h2 p.env.sub e (hq.val p hd rfl)
      · exact hd.elim
    · exact hd.elim
  · split at hd
    · split at hd
      · obtain ⟨v, rfl, a, ws, rfl, h, rl⟩ := hr.one
        rename_i e
        exact cr_all C.calm pins s σ H _ us Q I r ⟨a, _, rfl, SqL.of (by rw [h, bools_of rl e]), hq.val p hd rfl⟩
      · exact hd.elim
    · exact hd.elim
  · split at hd
    · split at hd
      · obtain ⟨v, rfl, a, ws, rfl, h, rl⟩ := hr.one
        rename_i e
        exact cr_any C.calm pins s σ H _ us Q I r ⟨a, _, rfl, SqL.of (by rw [h, bools_of rl e]), hq.val p hd rfl⟩
      · exact hd.elim
    · exact hd.elim
  · split at hd
    · obtain ⟨v, rfl, h⟩ := hr.one
      obtain ⟨u, rfl, ru⟩ := vals1 r
      obtain ⟨q, h1, h2, h3, h4, h5⟩ := hd
      have dp := rd_dp p.env.sub h1 h
      rw [← C.hK] at dp
      exact repr_ok C.guards (by have := C.room.un; omega) I ru dp h2 h3 h4 (hq.val p h5 rfl)
    · exact hd.elim
  · split at hd
    · obtain ⟨v, w, rfl, h1, h2⟩ := hr.two
      cases h1; cases h2
      exact call_max2 C.calm pins s σ H _ us Q I r ⟨_, _, rfl, hq.val p hd rfl⟩
    · exact hd.elim
  · split at hd
    · obtain ⟨v, w, rfl, h1, h2⟩ := hr.two
      cases h1; cases h2
      exact call_min2 C.calm pins s σ H _ us Q I r ⟨_, _, rfl, hq.val p hd rfl⟩
    · exact hd.elim
  · split at hd
    · obtain ⟨v, rfl, h1⟩ := hr.one
      cases h1
      exact call_abs pins s σ H _ us Q I r ⟨_, rfl, hq.val p hd rfl⟩
    · exact hd.elim
  · exact hd.elim
theorem dBty_ok (C : CtxOk κ k X T B xk) {F H F0 H0 : Hp} {σ : L2.St} {ρ0 ρ : Env'} {ds : List D} {vs : List V} {ty : String} {kr : R → Prop} {Q : VK} {pins : List (Addr × Obj)} {s : Shared} {us : List Value} (I : Inv X pins σ H s) (r : Vals vs us)
    (hr : RdL κ F H ds vs) (p : Post κ B F0 H0 σ ρ0 F H ρ) (hd : dBty ty ds kr) (hq : Wants κ B F0 H0 σ ρ0 ρ kr Q) : wpAny (model X.prog X.w) X.A (call (.type ty) us) (EP X pins σ Q) X.xe s := by
  unfold dBty at hd
  split at hd
  · obtain ⟨v, rfl, h1⟩ := hr.one
    cases h1
    exact call_int1 pins s σ H _ us Q I r (.inl ⟨_, rfl, hq.val p hd rfl⟩)
  · obtain ⟨v, rfl, h1⟩ := hr.one
    cases h1
    exact call_int1 pins s σ H _ us Q I r (.inr ⟨_, rfl, hq.val p hd rfl⟩)
  · obtain ⟨v, rfl, h1⟩ := hr.one
    cases h1
    split at hd
    · rename_i e
      exact call_int_str pins s σ H _ us Q I r ⟨_, _, rfl, e, hd.1, hq.val p hd.2 rfl⟩
    · exact hd.elim
  · obtain ⟨v, rfl, h1⟩ := hr.one
    cases h1
    exact call_str_int pins s σ H _ us Q I r ⟨_, rfl, hd.1, hq.val p hd.2 rfl⟩
  · obtain ⟨v, rfl, h1⟩ := hr.one
    cases h1
    exact SkE.call_str_str pins s σ H _ us Q I r ⟨_, rfl, hq.val p hd rfl⟩
  · obtain ⟨v, rfl, a, ws, rfl, h, rl⟩ := hr.one
    exact call_list_of pins s σ H _ us Q I r ⟨a, ws, rfl, .inl (SqL.of h), fun l hn => hq.lst p rl hn hd⟩
  · obtain ⟨v, rfl, h⟩ := hr.one
    have h : Rep κ F _ _ := h
    unfold Rep at h
    obtain ⟨a, ws, rfl, h, rl⟩ := h
    exact call_list_of pins s σ H _ us Q I r ⟨a, ws, rfl, .inr (by rw [C.hK]; exact (same_t p.env.sub h).sq), fun l hn => hq.lst p rl hn hd⟩
  · obtain ⟨v, rfl, a, ws, rfl, h, rl⟩ := hr.one
    exact call_tuple_of pins s σ H _ us Q I r ⟨a, ws, rfl, .inl ⟨SqL.of h, fun l hn => hq.tup p rl hn hd⟩⟩
  · obtain ⟨v, rfl, h⟩ := hr.one
    have h : Rep κ F _ _ := h
    have h' := h
    unfold Rep at h
    obtain ⟨a, ws, rfl, h, rl⟩ := h
    exact call_tuple_of pins s σ H _ us Q I r ⟨a, ws, rfl, .inr ⟨by rw [C.hK]; exact (same_t p.env.sub h).sq, hq.val p hd h'⟩⟩
  · exact hd.elim
theorem looks_inv {ρ : Env'} {rs : List R} {f : List D → Prop} (h : match looks ρ rs with | some ds => f ds | none => False) : ∃ ds, looks ρ rs = some ds ∧ f ds := by
  cases e : looks ρ rs with
  | none => rw [e] at h; exact h.elim
  | some ds => rw [e] at h; exact ⟨ds, rfl, h⟩
/-- what is wanted of one own object's def -/
theorem ownOf1_inv {rs : List R} {c : Str} {d : D} (h : ownOf1 rs = some (c, d)) : ∃ ns xs, rs = [.val (.obj c ns xs)] ∧ d = .obj c ns xs := by
  unfold ownOf1 at h
  split at h
  · cases h; exact ⟨_, _, rfl, rfl⟩
  · cases h
theorem RsW.one1 {B F H H0 : Hp} {σ : L2.St} {ρ : Env'} {d : D} {vs : List V} (h : RsW κ B H0 F H σ ρ [.val d] vs) : ∃ v, vs = [v] ∧ Rep κ F d v := by
  cases h with
  | cons h t => cases t; exact ⟨_, rfl, h _ rfl⟩
theorem dBltX_ok (C : CtxOk κ k X T B xk) {F H F0 H0 : Hp} {σ : L2.St} {ρ0 ρ : Env'} {rs : List R} {vs : List V} {id : String} {kr : R → Prop} {Q : VK} {pins : List (Addr × Obj)} {s : Shared} {us : List Value} (I : Inv X pins σ H s) (r : Vals vs us)
    (hr : RsW κ B H0 F H σ ρ rs vs) (p : Post κ B F0 H0 σ ρ0 F H ρ) (hd : dBltX T xk id rs ρ kr) (hq : Wants κ B F0 H0 σ ρ0 ρ kr Q) : wpAny (model X.prog X.w) X.A (call (.builtin id) us) (EP X pins σ Q) X.xe s := by
  unfold dBltX at hd
  split at hd
  · rename_i c d e
    split at e
    · rename_i hid
      subst hid
      obtain ⟨ns, xs, rfl, rfl⟩ := ownOf1_inv e
      obtain ⟨v, rfl, rp⟩ := hr.one1
      unfold dOwn1 at hd
      split at hd
      · rename_i sm hs
        obtain ⟨f, fd, ps, j, c1, c2, c3, c4, c5, c6⟩ := C.mth _ _ _ hs
        have rp' := rp
        unfold Rep at rp
        obtain ⟨a, dx, ws, rfl, ha, _⟩ := rp
        obtain ⟨u, rfl, ru⟩ := vals1 r
        cases ru
        have spk := sp_call (Q := fun v H' => ∃ n : Int, v = .int n ∧ (0 ≤ n ∧ n < 2 ^ 63) ∧ Q (.int n) H') hd p (.cons rp' .nil) fun d v F' H' hkd p r => by
          cases d with
          | int n => cases r; exact ⟨n, rfl, hkd.1, hq _ _ F' H' hkd.2 p rfl⟩
          | _ => exact hkd.elim
        rw [List.append_nil] at spk
        exact own_len I (p.env.sub _ _ ha) c2 c4 (C.room.mono (by omega)) C.guards c3 C.passes spk
      · exact hd.elim
    · cases e
  · obtain ⟨ds, e, hd⟩ := looks_inv hd
    exact dBlt_ok C I r (hr.rd p.env e) p hd hq
theorem dBtyX_ok (C : CtxOk κ k X T B xk) {F H F0 H0 : Hp} {σ : L2.St} {ρ0 ρ : Env'} {rs : List R} {vs : List V} {ty : String} {kr : R → Prop} {Q : VK} {pins : List (Addr × Obj)} {s : Shared} {us : List Value} (I : Inv X pins σ H s) (r : Vals vs us)
    (hr : RsW κ B H0 F H σ ρ rs vs) (p : Post κ B F0 H0 σ ρ0 F H ρ) (hd : dBtyX T xk ty rs ρ kr) (hq : Wants κ B F0 H0 σ ρ0 ρ kr Q) : wpAny (model X.prog X.w) X.A (call (.type ty) us) (EP X pins σ Q) X.xe s := by
  unfold dBtyX at hd
  split at hd
  · rename_i c d e
    split at e
    · rename_i hid
      subst hid
      obtain ⟨ns, xs, rfl, rfl⟩ := ownOf1_inv e
      obtain ⟨v, rfl, rp⟩ := hr.one1
      unfold dOwn1 at hd
      split at hd
      · rename_i sm hs
        obtain ⟨f, fd, ps, j, c1, c2, c3, c4, c5, c6⟩ := C.mth _ _ _ hs
        have rp' := rp
        unfold Rep at rp
        obtain ⟨a, dx, ws, rfl, ha, _⟩ := rp
        obtain ⟨u, rfl, ru⟩ := vals1 r
        cases ru
        have spk := sp_call (Q := fun v H' => ∃ z : Str, v = .str z ∧ Q (.str z) H') hd p (.cons rp' .nil) fun d v F' H' hkd p r => by
          cases d with
          | str n => cases r; exact ⟨n, rfl, hq _ _ F' H' hkd p rfl⟩
          | _ => exact hkd.elim
        rw [List.append_nil] at spk
        exact own_str I (p.env.sub _ _ ha) c2 c4 (C.room.mono (by omega)) C.guards c3 C.passes spk
      · exact hd.elim
    · cases e
  · obtain ⟨ds, e, hd⟩ := looks_inv hd
    exact dBty_ok C I r (hr.rd p.env e) p hd hq
theorem dBltX_nil {id : String} {ρ : Env'} {kr : R → Prop} (h : dBltX T xk id [] ρ kr) : False := by
  unfold dBltX at h
  have e : (if id = "len" then ownOf1 [] else none) = none := by split <;> rfl
  rw [e] at h
  have h : dBlt T id [] kr := h
  unfold dBlt at h
  split at h <;> exact h.elim
theorem dBtyX_nil {ty : String} {ρ : Env'} {kr : R → Prop} (h : dBtyX T xk ty [] ρ kr) : False := by
  unfold dBtyX at h
  have e : (if ty = "str" then ownOf1 [] else none) = none := by split <;> rfl
  rw [e] at h
  have nb : ∀ ty, ¬ dBty ty [] kr := fun ty h => by
    unfold dBty at h
    split at h <;> first | exact h.elim | simp_all
  exact nb ty h
theorem c_blt (C : CtxOk κ k X T B xk) (hf : ∀ e, PE X e (tE κ B (dE n T xk) e)) {x : Str} {p pos : Pos} {args : List Expr} {id : String} (hb : badName x = false) (hg : Gl X x) (hgv : T.g.lookup x = some .blt) (hst : args.any isStar = false) (hi : bltIds.lookup x = some id) :
    PE X (.Call (.Name x p) args [] pos) (tE κ B (fun _ ρ k => dRs (dE n T xk) args ρ fun rs ρ1 => dBltX T xk id rs ρ1 fun r => k r ρ1) (.Call (.Name x p) args [] pos)) := by
  have hm : X.mg x = none := C.glb x _ hgv
  have pa := pa_R hf (fun e ρ k h => dE_noStar h) args
  cases args with
  | nil => exact PE.no fun σ H Q ⟨F, ρ, k, en, hd, hq⟩ => dBltX_nil (ρ := ρ) hd
  | cons e es =>
    rw [List.any_cons, Bool.or_eq_false_iff] at hst
    refine PE.imp (pe_callBW hg hm (blt_boot hi).1 pa (blt_boot hi).2 (bad_inv hb).1 (star_cons hst.1 es X.env) (star_any hst.2 pos X.env)) fun σ H Q ⟨F, ρ, k, en, hd, hq⟩ => ?_
    exact ⟨F, ρ, _, en, hd, fun rs ρ1 vs F1 H1 h1 p1 o1 pins s us I r => dBltX_ok C I r o1 p1 h1 fun r v F' H' hk p o => hq r ρ1 v F' H' hk p o⟩
theorem c_bty (C : CtxOk κ k X T B xk) (hf : ∀ e, PE X e (tE κ B (dE n T xk) e)) {x : Str} {p pos : Pos} {args : List Expr} {ty : String} (hb : badName x = false) (hg : Gl X x) (hgv : T.g.lookup x = some (.bty ty)) (hst : args.any isStar = false) :
    PE X (.Call (.Name x p) args [] pos) (tE κ B (fun _ ρ k => dRs (dE n T xk) args ρ fun rs ρ1 => dBtyX T xk ty rs ρ1 fun r => k r ρ1) (.Call (.Name x p) args [] pos)) := by
  obtain ⟨hm, hv, hn⟩ := C.glb x _ hgv
  have pa := pa_R hf (fun e ρ k h => dE_noStar h) args
  cases args with
  | nil => exact PE.no fun σ H Q ⟨F, ρ, k, en, hd, hq⟩ => dBtyX_nil (ρ := ρ) hd
  | cons e es =>
    rw [List.any_cons, Bool.or_eq_false_iff] at hst
    refine PE.imp (pe_callTyW hg hm hv pa hn (bad_inv hb).1 (star_cons hst.1 es X.env) (star_any hst.2 pos X.env)) fun σ H Q ⟨F, ρ, k, en, hd, hq⟩ => ?_
    exact ⟨F, ρ, _, en, hd, fun rs ρ1 vs F1 H1 h1 p1 o1 pins s us I r => dBtyX_ok C I r o1 p1 h1 fun r v F' H' hk p o => hq r ρ1 v F' H' hk p o⟩
end
end DL

set_option Elab.async false
set_option linter.all false
set_option maxRecDepth 100000
set_option maxHeartbeats 1000000
/-! DLs: x, *r = list; methods of classes; a class that a name holds. -/
namespace DL
open PySem PySem.Spec PyProof.Rows L2

section
variable {prog : Program} {w : World} {A : Around} {E : Value → Shared → Prop} {s : Shared}
theorem walk_from {it l : Addr} {items : Array Value} (hh : A.handled = none) (hne : l ≠ it) (i0 : Nat) (h0 : i0 ≤ items.size) :
    WalksS prog w A it [it, l] [it] (fun a b => b = a) (items.size - i0) (fun i v => items[i0 + i]? = some v) (fun i s => s.heap.IsListIter it l (i0 + i) ∧ s.heap.IsList l items) where
  sub := fun b hb => by
    rw [List.mem_singleton.mp hb]; exact List.mem_cons_self ..
  grefl := fun a => rfl
  gtrans := fun a b c h1 h2 => h2.trans h1
  frame := fun i s h' tk ⟨⟨o, ho, r⟩, ⟨o2, ho2, r2⟩⟩ _ k => ⟨⟨o, k it (List.mem_cons_self ..) o ho, r⟩, ⟨o2, k l (List.mem_cons_of_mem _ (List.mem_cons_self ..)) o2 ho2, r2⟩⟩
  item := fun i s Q E hi ⟨hit, hl⟩ hQ => by
    have hlt : i0 + i < items.size := by omega
    refine wpAny_pyNext_list_item hit hl (x := items[i0 + i]) (by simp [hlt]) fun h' hit' hs' => ?_
    refine hQ _ _ (by simp [hlt]) ⟨hit', hl.extBut hs'.extBut hne⟩ ⟨fun b o hb e => ?_, rfl, rfl, rfl, Nat.le_refl _⟩
    exact hs'.extBut b o (fun z => hb (by rw [z]; exact List.mem_cons_self ..)) e
  done := fun s Q E ⟨hit, hl⟩ hQ => by
    refine wpAny_pyNext_list_end hh hit hl (by simp; omega) fun h' he => ?_
    exact hQ _ ⟨fun b o hb e => he b o (fun z => hb (by rw [z]; exact List.mem_cons_self ..)) e, rfl, rfl, rfl, Nat.le_refl _⟩
  self := fun i s Q E ⟨hit, _⟩ h => wpAny_pyIter_listiter hit h
theorem unpack_star {l : Addr} {items : Array Value} {x : Value} {rest : List Value} {Q : List Value → Shared → Prop} (hh : A.handled = none) (hl : s.heap.IsList l items) (hi : items.toList = x :: rest) (hz : items.size ≤ sizeLine)
    (hQ : ∀ s' : Shared, (∀ b o, s.heap.get? b = some o → s'.heap.get? b = some o) → s'.gens = s.gens → s'.os = s.os → s'.drawn = s.drawn →
      Q [x, .ref s'.heap.objs.size] { s' with heap := s'.heap.push { cls := .type "list", data := .seq rest.toArray } }) :
    wpAny (model prog w) A (unpackItems (.ref l) 2 (some 1)) Q E s := by
  have hlt : l ≠ s.heap.objs.size := by obtain ⟨o, ho, _⟩ := hl; exact Nat.ne_of_lt (Heap.lt_size ho)
  have hsz : 1 ≤ items.size := by
    have := congrArg List.length hi
    simp at this
    omega
  have hhA : A.in1.handled = none := hh
  unfold unpackItems
  refine wpAny_bind ?_
  unfold notIterableAtAll
  refine wpAny_bind (wpAny_specialOf hl.typeIs F.slot_list_iter.lookup ?_)
  refine wpAny_pure ?_
  simp only [Bool.false_eq_true, if_false]
  refine wpAny_bind (wpAny_holding (wpAny_pyIter_list hl ?_))
  refine wpAny_bind (wpAny_holding (PySem.W.kun_draw hlt 1 0 _ _ ⟨_, Heap.get?_push_size _ rfl, rfl, rfl⟩ (hl.push _) (by omega) fun h₁ hit₁ hs₁ => ?_))
  have hf : (items.toList.drop 0).take 1 = [x] := by rw [hi]; rfl
  rw [hf]
  rw [if_neg (by simp)]
  have hl₁ : h₁.IsList l items := (hl.push _).extBut hs₁.extBut hlt
  have W := walk_from (prog := prog) (w := w) (A := A.in1) hhA hlt 1 hsz
  have k1 : ∀ b o, s.heap.get? b = some o → h₁.get? b = some o := fun b o e => hs₁.extBut b o (Nat.ne_of_lt (Heap.lt_size e)) (Heap.get?_push_of_some _ e)
  refine wpAny_bind (wpAny_holding (wpAny_collect_iter (T := "list_iterator") (.inr (.inr (.inl rfl))) W (fun i s st => st.1.typeIs) (s := { s with heap := h₁ }) ⟨hit₁, hl₁⟩ (fun b hb => ?_) (List.mem_cons_self ..) (fun s' acc mv ia => ?_) (by omega)))
  · rcases List.mem_cons.mp hb with rfl | hb
    · obtain ⟨o, ho, _⟩ := hit₁; exact Heap.lt_size ho
    · rw [List.mem_singleton.mp hb]
      obtain ⟨o, ho, _⟩ := hl₁; exact Heap.lt_size ho
  · have ea : acc.toList = rest := by
      refine List.ext_getElem? fun j => ?_
      have hj : rest[j]? = items.toList[1 + j]? := by rw [hi, Nat.add_comm]; rfl
      rw [hj]
      by_cases hjl : j < acc.size
      · have e1 : acc[j]? = some acc[j] := by simp [hjl]
        have := ia.2 j _ e1
        simp only [Array.getElem?_toList]
        rw [e1, this]
      · have h1 : acc.toList[j]? = none := by simp; omega
        have h2 : items.toList[1 + j]? = none := by
          have := ia.1
          simp
          omega
        rw [h1, h2]
    rw [ea]
    have hr : rest.length ≤ sizeLine := by
      have := congrArg List.length hi
      simp at this
      omega
    simp only [Nat.reduceSub, Nat.sub_self, Nat.sub_zero, Nat.not_lt_zero, if_false, List.take_length, List.drop_length]
    refine wpAny_bind (wpAny_newList ?_ hr)
    refine wpAny_pure ?_
    exact hQ s' (fun b o e => mv.heap b o (fun z => by rw [List.mem_singleton.mp z] at e; exact absurd (Heap.lt_size e) (Nat.lt_irrefl _)) (k1 b o e)) mv.gens mv.os mv.drawn
end
/-- x, *r = a list -/
def gStar (K : PySem.W.Frag) (i j : Nat) : TG := fun v σ H Q => ∃ l x xs, v = .ref l ∧ SqL K H l (x :: xs) ∧ ∀ p, H p = none → Q ((σ.set i (some x)).set j (some (.ref p))) (upd H p (.lst xs))
theorem pg_star {X : Cx} {a b : Str} {i j k : Nat} {pa pb ps pos : Pos} (hc : X.calm = true) (hN : X.N.Nodup) (hi : X.N[i]? = some a) (hj : X.N[j]? = some b) (ha : L2.Loc X.env.scope a) (hb : L2.Loc X.env.scope b) (fa : X.fn a = true ∨ X.env.scope.names.lookup a = some .local) (fb : X.fn b = true ∨ X.env.scope.names.lookup b = some .local) :
    PG X (.Tuple [.Name a pa, .Starred (.Name b pb) ps] k pos) (gStar X.K i j) := by
  refine ⟨fun pins s σ H v u Q I r hw => ?_⟩
  obtain ⟨l, x, xs, e1, hq, hw⟩ := hw
  subst e1
  cases r
  obtain ⟨its, rv, pl, hz⟩ := I.list hq
  cases rv with
  | @cons _ u0 _ us r0 rr =>
    rw [PyProof.Rows.assign_Tuple]
    refine wpAny_bind (wpAny_standAt ?_)
    unfold unpack
    show wpAny _ _ (do let z ← holding [.ref l] (unpackItems (.ref l) 2 (some 1)); assignInOrder [assign (.Name a pa) X.env, assign (.Name b pb) X.env] z) _ _ _
    have hzl : us.length + 1 ≤ sizeLine := by
      have := rr.length
      simp at hz
      first | omega | (rw [← this]; exact hz)
    refine wpAny_bind (wpAny_holding (unpack_star (I.ok.hd hc) pl.isList (x := u0) (rest := us) (by simp) (by simpa using hzl) fun s' ks hg ho hd => ?_))
    have I1 : Inv X pins σ H s' := by
      have := I.kept (t' := s'.toks) (h' := s'.heap) ks
      obtain ⟨h1, h2, h3, h4, h5⟩ := s'
      dsimp only at hg ho hd
      subst hg ho hd
      exact this
    have hf : H s'.heap.objs.size = none := I1.hok.fresh (Nat.le_refl _)
    have I2 : Inv X pins σ (upd H s'.heap.objs.size (.lst xs)) { s' with heap := s'.heap.push { cls := .type "list", data := .seq us.toArray } } := I1.laid (t' := s'.toks) (fun b u e => Heap.get?_push_of_some _ e) (Nat.le_refl _) ⟨by rw [rr.length]; omega, us, 0, rr, Heap.get?_push_size _ rfl⟩
    unfold assignInOrder
    refine wpAny_bind (wpAny_holding (wpAny_assign_Name (store_ok I2 hN hi ha r0 (fun s3 I3 => ?_) fa)))
    unfold assignInOrder
    refine wpAny_bind (wpAny_holding (wpAny_assign_Name (store_ok (v := .ref s'.heap.objs.size) I3 hN hj hb rfl (fun s4 I4 => ?_) fb)))
    unfold assignInOrder
    exact wpAny_pure ⟨_, _, I4, hw _ hf⟩
/-! ### methods of classes -/
def CMethQ (X : Cx) (m : Str) (t : TA) (σ : L2.St) (x : V) (H1 : Hp) (Q : VK) : Prop := ∃ (CX : CXT) (k : Nat) (C p g : Addr) (mc : Value) (fd : FuncData) (ps : List Str) (sp : Sp) (E : XK),
  ClX.CRead X.K C mc ∧ ClX.CMet X.K C mc m p g ∧ FnG X.prog X.w X.K X.mg X.base CX k g fd ps sp ∧ Room k X.A ∧ Binds X.K fd ps [] ∧ Passes CX X E ∧ x = .ref C ∧ t σ H1 fun vs H2 => sp (.ref C :: vs) H2 Q E
theorem run_cmG {X : Cx} {CX : CXT} {k : Nat} {q C g : Addr} {fd : FuncData} {ps : List Str} {sp : Sp} {E : XK} {Q : VK} {us : List Value} {vs : List V} {pins : List (Addr × Obj)} {σ : L2.St} {H : Hp} {s : Shared} (F : FnG X.prog X.w X.K X.mg X.base CX k g fd ps sp) (hr : Room k X.A) (hgu : X.A.guards = some []) (hb : Binds X.K fd ps []) (hx : Passes CX X E)
    (I : Inv X ((q, PySem.W.methodObj (.ref g) (.ref C)) :: pins) σ H s) (r : Vals vs us) (h : sp (.ref C :: vs) H Q E) : wpAny (model X.prog X.w) X.A (call (.ref q) us) (EP X pins σ Q) X.xe s := by
  have r2 : Vals (.ref C :: vs) (.ref C :: us) := .cons rfl r
  have hl : (Value.ref C :: us ++ []).length = ps.length := by
    have := F.len _ _ _ _ h
    rw [List.append_nil, ← r2.length]; exact this
  have bt := hb s (.ref C :: us) I.kIn hl
  rw [List.append_nil] at bt
  have z : wpAny (model X.prog X.w) X.A (call (.ref q) us) (EP X ((q, PySem.W.methodObj (.ref g) (.ref C)) :: pins) σ Q) X.xe s :=
    wpAny_call (PySem.W.method_call (ClX.pin_at I) (codeAny_mono (F.run X.A X.stack s H ⟨.ref C :: us, []⟩ (.ref C :: us) (.ref C :: vs) Q E hr hgu I.env0 bt r2 h) fun r s' hq => by
      cases r with
      | error e => exact hx _ σ H s e s' I hq
      | ok fl =>
        cases fl with
        | ret u => exact I.after hq
        | next => exact False.elim hq
        | brk => exact False.elim hq
        | cont => exact False.elim hq))
  exact thn z fun _ _ y => ClX.unpinE y
theorem pe_methW {X : Cx} {o e : Expr} {es : List Expr} {m : Str} {pos apos : Pos} {ta : TE} {t : TA} {pl : Sem Bool} (he : PE X o ta) (hgu : X.A.guards = some []) (ha : PA X (e :: es) t)
    (hst : starEach (e :: es) X.env = (false, eval e X.env) :: starEach es X.env) (hpl : (backTo pos (starEach es X.env)).any (·.1) = false)
    (ht : eval (.Call (.Attribute o m apos) (e :: es) [] pos) X.env = (do
      let ov ← eval o X.env
      standAt apos.atName
      let (f, first) ← holding [ov] (getMethod ov m pl)
      callWith pos f first (backTo pos (starEach (e :: es) X.env)) (backToKw pos (keywordEach [] X.env)))) :
    PE X (.Call (.Attribute o m apos) (e :: es) [] pos) (fun σ H Q => ta σ H fun x H1 => MethQ X m t σ x H1 Q ∨ CMethQ X m t σ x H1 Q) := by
  refine ⟨fun pins s σ H Q I h => ?_⟩
  refine PySem.W.methodCall_KW (pl := pl) (thn (he.run pins s σ H _ I h) fun u s1 ⟨x, H1, I1, rx, hh⟩ => ?_) ht
  rcases hh with ⟨CX, k, f, C, fd, ps, sp, ds, dvs, E, a, dx, fs, c, hm, F, hr, hb, hd, hx, ex, ea, l, q⟩ | ⟨CX, k, C, p, g, mc, fd, ps, sp, E, r, c, F, hr, hb, hx, ex, q⟩
  · subst ex
    obtain rfl : u = Value.ref a := rx
    refine getmeth_ok I1 ea c hm l ?_
    refine PySem.W.callWith_K (first := [.ref a]) (h₀ := X.base) I.ok.mod.kin hm.kp (thn (ha.run pos pins s1 σ H1 _ I1 q) fun us s2 ⟨vs, H2, I2, r, q2⟩ => ⟨I2.kIn, ?_⟩) hst hpl
    exact run_fnG (us := .ref a :: us) (vs := .ref a :: vs) F hr hgu hb hd hx I2 (.cons rfl r) q2
  · subst ex
    obtain rfl : u = Value.ref C := rx
    refine ClX.getmethcm_ok I1 r c fun s2 I2 => ?_
    refine ClX.callwith_cm I2 (ClX.base_none I1 (Nat.le_refl _)) c.fi (thn (ha.run pos _ s2 σ H1 _ I2 q) fun us s3 ⟨vs, H2, I3, rv, q2⟩ => ⟨⟨ClX.pin_at I3, I3.kIn⟩, ?_⟩) hst hpl
    exact run_cmG F hr hgu hb hx I3 rv q2
/-! ### a class that a name holds -/
theorem pe_makeV {X : Cx} {x : Str} {i : Nat} {p pos : Pos} {e : Expr} {es : List Expr} {t : TA} (hgu : X.A.guards = some []) (hN : X.N[i]? = some x) (hv : Vis X.env.scope x) (h1 : (x == ("__debug__" : Str)) = false) (h2 : (x == ("__classdict__" : Str)) = false)
    (ha : PA X (e :: es) t) (he : starEach (e :: es) X.env = (false, eval e X.env) :: starEach es X.env) (hpl : (backTo pos (starEach es X.env)).any (·.1) = false) :
    PE X (.Call (.Name x p) (e :: es) [] pos) (fun σ H Q => ∃ (CX : CXT) (k : Nat) (C f : Addr) (fd : FuncData) (ps : List Str) (sp : Sp) (E : XK), σ[i]? = some (some (.ref C)) ∧ Mk X.K C f ∧ FnG X.prog X.w X.K X.mg X.base CX k f fd ps sp ∧ Room (k + 1) X.A ∧ Binds X.K fd ps [] ∧ Passes CX X E ∧
      tMake C sp [] E t σ H Q) := by
  refine ⟨fun pins s σ H Q I h => ?_⟩
  obtain ⟨CX, k, C, f, fd, ps, sp, E, hσ, M, F, hr, hb, hx, h⟩ := h
  refine wpAny_Call_Name_kw (thn ((pe_var hN hv h1 h2).run pins s σ H (fun v H1 => v = .ref C ∧ H1 = H) I ⟨_, hσ, rfl, rfl⟩) fun u s1 ⟨v, H1, I1, rc, ev, eH⟩ => ?_)
  subst ev eH
  obtain rfl : u = Value.ref C := rc
  refine PySem.W.callWith_K (h₀ := X.base) I.ok.mod.kin M.kp (thn (ha.run pos pins s1 σ _ _ I1 h) fun us s2 ⟨vs, H2, I2, r, q⟩ => ⟨I2.kIn, ?_⟩) he hpl
  exact run_makeG M F hr hgu hb .nil hx I2 r q
end DL

set_option Elab.async false
set_option linter.all false
set_option maxRecDepth 100000
set_option maxHeartbeats 1000000
/-! DL9: methods. -/
namespace DL
open PySem PySem.Spec PyProof.Rows L2

section
variable {κ : KB} {k : Nat} {X : Cx} {T : Tab} {B : Hp} {xk : DX → Prop} {n : Nat}

theorem star_all : ∀ {es : List Expr} (h : es.any isStar = false) (pos : Pos) (env : Env), (backTo pos (starEach es env)).all (fun x => !x.1) = true
  | [], _, _, _ => rfl
  | e :: es, h, pos, env => by
    rw [List.any_cons, Bool.or_eq_false_iff] at h
    rw [star_cons h.1]
    exact star_all h.2 pos env
theorem meth_inv {o : Expr} {apos pos : Pos} {args : List Expr} (h : methOk o apos pos args = true) : plainBase o = true ∧ (apos.endLine == pos.line) = true ∧ args.length < 30 ∧ args.any isStar = false := by
  unfold methOk at h
  simp only [Bool.and_eq_true, decide_eq_true_eq] at h
  exact ⟨h.1, h.2.1, h.2.2.1, by have := h.2.2.2; simpa using this⟩
theorem meth_form {args : List Expr} {pos : Pos} {env : Env} (h : args.length < 30) (hs : args.any isStar = false) : methodCallForm (args.length + ([] : List Keyword).length) (backTo pos (starEach args env)) (backToKw pos (keywordEach [] env)) = true := by
  unfold methodCallForm
  rw [star_all hs]
  show (true && true && decide (args.length + 0 + 0 < 30)) = true
  simp
  exact h
theorem meth_eval {o : Expr} {m : Str} {apos pos : Pos} {args : List Expr} {env : Env} (h : methOk o apos pos args = true) : eval (.Call (.Attribute o m apos) args [] pos) env = (do
      let ov ← eval o env
      standAt apos.atName
      let (f, first) ← holding [ov] (getMethod ov m (plainOf o env))
      callWith pos f first (backTo pos (starEach args env)) (backToKw pos (keywordEach [] env))) := by
  obtain ⟨h1, h2, h3, h4⟩ := meth_inv h
  show (do
    let ov ← attributeBase o m env (eval o env)
    standAt apos.atName
    methodCall o m apos pos env ov (args.length + ([] : List Keyword).length) (backTo pos (starEach args env)) (backToKw pos (keywordEach [] env))) = _
  rw [plain_base h1]
  refine congrArg _ (funext fun ov => ?_)
  refine congrArg _ (funext fun _ => ?_)
  exact mcall_line (meth_form h3 h4) h2

theorem c_meth (C : CtxOk κ k X T B xk) (hf : ∀ e, PE X e (tE κ B (dE n T xk) e)) {o : Expr} {m : Str} {apos pos : Pos} {args : List Expr} (hm : methOk o apos pos args = true) :
    PE X (.Call (.Attribute o m apos) args [] pos) (tE κ B (fun _ ρ k => dE n T xk o ρ (frK fun d ρ1 => (match d with
          | .obj c ns xs => (match T.ms.lookup (c, m) with
            | some sm => (ns.zip xs).lookup m = none ∧ dVs (dE n T xk) args ρ1 fun ds ρ2 => sm (.obj c ns xs :: ds) (fun d => k (.val d) ρ2) xk
            | none => False)
          | .cl c => dClM (dE n T xk) T xk c m args ρ1 k
          | _ => False))) (.Call (.Attribute o m apos) args [] pos)) := by
  obtain ⟨h1, h2, h3, hst⟩ := meth_inv hm
  have pa := pa_V hf (fun e ρ k h => dE_noStar h) args
  have core : ∀ (t : TA), (t = tVs κ B (dE n T xk) args ∨ (args = [] ∧ t = tNil)) → ∀ σ H Q, tE κ B (fun _ ρ k => dE n T xk o ρ (frK fun d ρ1 => (match d with
          | .obj c ns xs => (match T.ms.lookup (c, m) with
            | some sm => (ns.zip xs).lookup m = none ∧ dVs (dE n T xk) args ρ1 fun ds ρ2 => sm (.obj c ns xs :: ds) (fun d => k (.val d) ρ2) xk
            | none => False)
          | .cl c => dClM (dE n T xk) T xk c m args ρ1 k
          | _ => False))) (.Call (.Attribute o m apos) args [] pos) σ H Q → tE κ B (dE n T xk) o σ H fun x H1 => MethQ X m t σ x H1 Q ∨ (args ≠ [] ∧ CMethQ X m t σ x H1 Q) := fun t ht σ H Q ⟨F, ρ, k, en, hd, hq⟩ => by
    refine ⟨F, ρ, _, en, hd, fun r ρ1 v F1 H1 h1 p1 o1 => ?_⟩
    obtain ⟨d, ρ1', hz, h1⟩ := frK_inv h1
    obtain ⟨F1', p1', rp⟩ := o1.frz p1 hz
    cases d with
    | obj c ns xs =>
      refine .inl ?_
      have h1 : (match T.ms.lookup (c, m) with
            | some sm => (ns.zip xs).lookup m = none ∧ dVs (dE n T xk) args ρ1' fun ds ρ2 => sm (.obj c ns xs :: ds) (fun d => k (.val d) ρ2) xk
            | none => False) := h1
      cases em : T.ms.lookup (c, m) with
      | none => rw [em] at h1; exact h1.elim
      | some sm =>
        rw [em] at h1
        obtain ⟨f, fd, ps, j, m1, m2, m3, m4, m5, m6⟩ := C.mth c m sm em
        have rp' := rp
        unfold Rep at rp'
        obtain ⟨p, dx, vs, rfl, a, b, rl⟩ := rp'
        refine ⟨_, j, f, _, fd, ps, _, [], [], xOut κ B xk, p, dx, _, m1, m2, m4, C.room.mono (by omega), m3, .nil, C.passes, rfl, p1'.env.sub _ _ a, zip_lookup_none b rl h1.1, ?_⟩
        rcases ht with rfl | ⟨rfl, rfl⟩
        · exact ⟨F1', ρ1', _, p1'.env, h1.2, fun ds ρ2 ws F2 H2 h2 p2 o2 => sp_call (vs := .ref p :: ws) h2 (p1'.trans p2) (.cons (rp.mono p2.exF) o2) fun d v F' H' hkd p r => hq _ ρ2 v F' H' hkd p r⟩
        · exact sp_call (vs := [.ref p]) (kd := fun d => k (.val d) ρ1') h1.2 p1' (.cons rp .nil) fun d v F' H' hkd p r => hq _ ρ1' v F' H' hkd p r
    | cl c =>
      have h1 : dClM (dE n T xk) T xk c m args ρ1' k := h1
      unfold dClM at h1
      cases args with
      | nil => exact h1.elim
      | cons e es =>
        refine .inr ⟨by simp, ?_⟩
        cases em : T.cm.lookup (c, m) with
        | none => rw [em] at h1; exact h1.elim
        | some sm =>
          rw [em] at h1
          obtain ⟨mc, p, g, fd, ps, j, m1, m2, m3, m4, m5⟩ := C.cmt c m sm em
          have rp' : v = .ref (He.ga κ.K c) := rp
          subst rp'
          refine ⟨_, j, _, p, g, mc, fd, ps, _, xOut κ B xk, m1, m2, m4, C.room.mono (by omega), m3, C.passes, rfl, ?_⟩
          rcases ht with rfl | ⟨z, _⟩
          · refine ⟨F1', ρ1', _, p1'.env, h1, fun ds ρ2 ws F2 H2 h2 p2 o2 => ?_⟩
            have q := sp_call (vs := .ref (He.ga κ.K c) :: ws) (Q := Q) h2 (p1'.trans p2) (.cons rfl o2) fun d v F' H' hkd p r => hq _ ρ2 v F' H' hkd p r
            rw [List.append_nil] at q
            exact q
          · cases z
    | _ => exact h1.elim
  cases args with
  | nil =>
    exact PE.imp (pe_methG0 (hf o) C.guards (meth_eval hm)) fun σ H Q h => by
      obtain ⟨F, ρ, k, en, hd, hq⟩ := core tNil (.inr ⟨rfl, rfl⟩) σ H Q h
      exact ⟨F, ρ, k, en, hd, fun r ρ1 v F1 H1 h1 p1 o1 => (hq r ρ1 v F1 H1 h1 p1 o1).elim id fun z => absurd rfl z.1⟩
  | cons e es =>
    rw [List.any_cons, Bool.or_eq_false_iff] at hst
    exact PE.imp (pe_methW (hf o) C.guards pa (star_cons hst.1 es X.env) (star_any hst.2 pos X.env) (meth_eval hm)) fun σ H Q h => by
      obtain ⟨F, ρ, k, en, hd, hq⟩ := core _ (.inl rfl) σ H Q h
      exact ⟨F, ρ, k, en, hd, fun r ρ1 v F1 H1 h1 p1 o1 => (hq r ρ1 v F1 H1 h1 p1 o1).imp id fun z => z.2⟩
theorem c_clsV (C : CtxOk κ k X T B xk) (hf : ∀ e, PE X e (tE κ B (dE n T xk) e)) {x : Str} {p pos : Pos} {args : List Expr} (hb : badName x = false) (hn : T.nm.lookup x = some .local) (hst : args.any isStar = false) :
    PE X (.Call (.Name x p) args [] pos) (tE κ B (fun _ ρ k => dClsV (dE n T xk) T xk x args ρ k) (.Call (.Name x p) args [] pos)) := by
  cases args with
  | nil => exact PE.no fun σ H Q ⟨F, ρ, k, en, hd, hq⟩ => hd
  | cons e es =>
    cases hi : slotOf T.N x with
    | none =>
      exact PE.no fun σ H Q ⟨F, ρ, k, en, hd, hq⟩ => by
        have hd : (match clsAt T x ρ with
          | some sm => dVs (dE n T xk) (e :: es) ρ fun ds ρ1 => sm ds (fun d => k (.val d) ρ1) xk
          | none => False) := hd
        unfold clsAt at hd
        rw [hi] at hd
        exact hd
    | some i =>
      have hv : Vis X.env.scope x := by
        unfold Vis
        rw [C.nm, hn]
        exact .inl rfl
      have pa := pa_V hf (fun e ρ k h => dE_noStar h) (e :: es)
      rw [List.any_cons, Bool.or_eq_false_iff] at hst
      refine PE.imp (pe_makeV (i := i) C.guards (by rw [C.hN]; exact slotOf_get hi) hv (bad_inv hb).1 (bad_inv hb).2 pa (star_cons hst.1 es X.env) (star_any hst.2 pos X.env)) fun σ H Q ⟨F, ρ, k, en, hd, hq⟩ => ?_
      have hd : (match clsAt T x ρ with
        | some sm => dVs (dE n T xk) (e :: es) ρ fun ds ρ1 => sm ds (fun d => k (.val d) ρ1) xk
        | none => False) := hd
      cases hc : clsAt T x ρ with
      | none => rw [hc] at hd; exact hd.elim
      | some sm =>
        rw [hc] at hd
        unfold clsAt at hc
        rw [hi] at hc
        dsimp only at hc
        split at hc
        · rename_i c hr
          split at hc
          · rename_i c' sm' hg
            split at hc
            · rename_i ec
              cases hc
              subst ec
              obtain ⟨h1, fI, fd, ps, j, h2, h3, h4, h5⟩ := C.glb c' _ hg
              obtain ⟨v, a1, a2⟩ := en.fr i _ hr
              have a2 : v = .ref (He.ga κ.K c') := a2
              subst a2
              refine ⟨_, j, _, fI, fd, ps, _, xOut κ B xk, a1, h2, h4, C.room.mono h5, h3, C.passes, ?_⟩
              exact ⟨F, ρ, _, en, hd, fun ds ρ1 vs F1 H1 h1 p1 o1 y dy hy hdy hne => sp_make h1 p1 o1 (fun d v F' H' hkd p r => hq _ ρ1 v F' H' hkd p r) y dy hy hdy hne⟩
            · cases hc
          · cases hc
        · cases hc

/-! ### methods of lists -/
/-- the list in a slot is changed -/
theorem Post.ownSet {F0 H0 F H : Hp} {σ : L2.St} {ρ0 ρ : Env'} {i : Nat} {d d' : D} {a : Addr} {o : HO} (p : Post κ B F0 H0 σ ρ0 F H ρ) (hi : ρ[i]? = some (some (.ow d))) (ha : σ[i]? = some (some (.ref a))) (hn : OwnAt κ F (upd H a o) d' a) :
    Post κ B F0 H0 σ ρ0 F (upd H a o) (ρ.set i (some (.ow d'))) := by
  have e := p.env
  obtain ⟨q, c1, c2, c3, c4⟩ := e.ow i d hi
  rw [ha] at c1; cases c1
  have nr : ∀ j d2, j ≠ i → ρ[j]? = some (some (.ow d2)) → ∀ q, σ[j]? = some (some (.ref q)) → q ≠ a := fun j d2 hj hd q hq z => by
    subst z; exact hj (e.dj j i q d2 d hd hi hq ha)
  have hlt : i < ρ.length := (List.getElem?_eq_some_iff.mp hi).1
  refine p.trans ⟨Same.refl F, ⟨fun x u hx => ?_, fun x u hx => ?_, by rw [List.length_set]; exact e.len, fun j d2 hj => ?_, fun j d2 hj => ?_, fun j j' q d1 d2 hj hj' h1 h2 => ?_⟩, fun x u hx hr => ?_, fun x hx hx' => absurd hx hx', fun x hx => ?_, fun x u hx => ?_⟩
  · rw [upd_ne (ne_of_none hx c3)]; exact e.bas x u hx
  · rw [upd_ne (ne_of_none hx c2)]; exact e.sub x u hx
  · rcases set_get hj with ⟨rfl, ez⟩ | ⟨ne, ez⟩
    · cases ez
    · exact e.fr j d2 ez
  · rcases set_get hj with ⟨rfl, ez⟩ | ⟨ne, ez⟩
    · cases ez; exact ⟨a, ha, c2, c3, hn⟩
    · obtain ⟨p', a', b', c', o'⟩ := e.ow j d2 ez
      exact ⟨p', a', b', c', o'.mono (Same.refl F) (upd_ne (nr j d2 ne ez p' a'))⟩
  · have f1 : ∀ (j : Nat) (d : D), (ρ.set i (some (.ow d')))[j]? = some (some (.ow d)) → ∃ d, ρ[j]? = some (some (.ow d)) := fun j d hj => by
      rcases set_get hj with ⟨rfl, ez⟩ | ⟨ne, ez⟩
      · exact ⟨_, hi⟩
      · exact ⟨_, ez⟩
    obtain ⟨e1, g1⟩ := f1 j d1 hj
    obtain ⟨e2, g2⟩ := f1 j' d2 hj'
    exact e.dj j j' q e1 e2 g1 g2 h1 h2
  · have ne : x ≠ a := fun z => hr ⟨i, d, hi, by rw [z]; exact ha⟩
    rw [upd_ne ne]; exact hx
  · obtain ⟨j, d2, hj, hq⟩ := hx
    rcases set_get hj with ⟨rfl, ez⟩ | ⟨ne, ez⟩
    · exact ⟨j, d, hi, hq⟩
    · exact ⟨j, d2, ez, hq⟩
  · by_cases z : x = a
    · subst z; exact ⟨_, upd_same⟩
    · exact ⟨u, by rw [upd_ne z]; exact hx⟩
/-- what a list's method asks -/
def rIns : V → List V → Hp → VK → Prop := fun x vs H Q => ∃ (l : Addr) (xs : List V) (i : Int) (y : V), x = .ref l ∧ vs = [.int i, y] ∧ H l = some (.lst xs) ∧ xs.length < sizeLine ∧ 0 ≤ i ∧ i < 2 ^ 63 ∧ Q .non (upd H l (.lst (xs.take i.toNat ++ [y] ++ xs.drop i.toNat)))
def LmR (m : Str) : V → List V → Hp → VK → Prop := if m = ("append" : Str) then rAppend else if m = ("pop" : Str) then rPopAt else if m = ("insert" : Str) then rIns else if m = ("reverse" : Str) then rReverse else fun _ _ _ _ => False
theorem dListM_ok (C : CtxOk κ k X T B xk) {F0 H0 F1 H1 F H : Hp} {σ : L2.St} {ρ0 ρ1 ρ : Env'} {m : Str} {r : R} {x : V} {ds : List D} {vs : List V} {kr : KR} {Q : VK} (o1 : ROk κ B H0 F1 H1 σ ρ1 r x) (p1 : Post κ B F0 H0 σ ρ0 F1 H1 ρ1) (p2 : Post κ B F1 H1 σ ρ1 F H ρ)
    (rl : RepL κ F ds vs) (hd : dListM m r ds ρ kr) (hq : ∀ r ρ' v F' H', kr r ρ' → Post κ B F0 H0 σ ρ0 F' H' ρ' → ROk κ B H0 F' H' σ ρ' r v → Q v H') : LmR m x vs H Q := by
  unfold dListM at hd
  cases r with
  | slot i =>
    dsimp only at hd
    cases hl : look ρ (.slot i) with
    | none => rw [hl] at hd; exact hd.elim
    | some d =>
      rw [hl] at hd
      cases d with
      | lst xs =>
        dsimp only at hd
        have hi := look_slot hl
        obtain ⟨a, c1, c2, c3, ws, h1, r1⟩ := p2.env.ow i _ hi
        have ex : x = .ref a := by have := o1.2; rw [c1] at this; cases this; rfl
        unfold LmR
        by_cases m1 : m = ("append" : Str)
        · rw [if_pos m1] at hd ⊢
          split at hd
          · obtain ⟨v, r', rfl, rd, r3⟩ := rl.cons_inv
            rw [r3.nil_inv]
            exact ⟨a, ws, v, ex, rfl, h1, by rw [← r1.len]; exact hd.1, hq _ _ _ F _ hd.2 ((p1.trans p2).ownSet hi c1 ⟨_, upd_same, r1.app (.cons rd .nil)⟩) rfl⟩
          · exact hd.elim
        · rw [if_neg m1] at hd ⊢
          by_cases m2 : m = ("pop" : Str)
          · rw [if_pos m2] at hd ⊢
            split at hd
            · rename_i j
              obtain ⟨v, r', rfl, rd, r3⟩ := rl.cons_inv
              rw [r3.nil_inv]
              cases rd
              obtain ⟨⟨b1, b2⟩, hd⟩ := hd
              cases eq : seqIndex? j xs.length with
              | none => rw [eq] at hd; exact hd.elim
              | some q =>
                rw [eq] at hd
                dsimp only at hd
                cases ey : xs[q]? with
                | none => rw [ey] at hd; exact hd.elim
                | some y =>
                  rw [ey] at hd
                  obtain ⟨w, ew, rw'⟩ := r1.get ey
                  exact ⟨a, ws, j, q, w, ex, rfl, h1, b1, b2, by rw [← r1.len]; exact eq, ew, hq _ _ w F _ hd ((p1.trans p2).ownSet hi c1 ⟨_, upd_same, r1.erase q⟩) rw'⟩
            · exact hd.elim
          · rw [if_neg m2] at hd ⊢
            by_cases m3 : m = ("insert" : Str)
            · rw [if_pos m3] at hd ⊢
              split at hd
              · rename_i j d
                obtain ⟨v, r', rfl, rd, r3⟩ := rl.cons_inv
                obtain ⟨v2, r4, rfl, rd2, r5⟩ := r3.cons_inv
                rw [r5.nil_inv]
                cases rd
                exact ⟨a, ws, j, v2, ex, rfl, h1, by rw [← r1.len]; exact hd.1.1, hd.1.2.1, hd.1.2.2, hq _ _ _ F _ hd.2 ((p1.trans p2).ownSet hi c1 ⟨_, upd_same, ((r1.take _).app (.cons rd2 .nil)).app (r1.drop _)⟩) rfl⟩
              · exact hd.elim
            · rw [if_neg m3] at hd ⊢
              by_cases m4 : m = ("reverse" : Str)
              · rw [if_pos m4] at hd ⊢
                split at hd
                · rw [rl.nil_inv]
                  exact ⟨a, ws, ex, rfl, h1, hq _ _ _ F _ hd ((p1.trans p2).ownSet hi c1 ⟨_, upd_same, r1.rev⟩) rfl⟩
                · exact hd.elim
              · rw [if_neg m4] at hd; exact hd.elim
      | _ => exact hd.elim
  | _ => exact hd.elim
theorem few_ok {e : Expr} {es : List Expr} {pos : Pos} (h3 : (e :: es).length < 30) (hst : (e :: es).any isStar = false) : ((backTo pos (starEach (e :: es) X.env)).all (fun x => !x.1) && (backToKw pos (keywordEach [] X.env)).all (fun x => x.1.isSome) && decide ((e :: es).length + ([] : List Keyword).length + (if ([] : List Keyword).isEmpty then 0 else 1) < 30)) = true := by
  rw [star_all hst]
  show (true && true && decide ((e :: es).length + 0 + 0 < 30)) = true
  simp at h3 ⊢
  exact h3
theorem c_listm1 (C : CtxOk κ k X T B xk) (hf : ∀ e, PE X e (tE κ B (dE n T xk) e)) {o : Expr} {m : Str} {apos pos : Pos} {args : List Expr} {id : String} (hm : methOk o apos pos args = true)
    (slot : Slot "list" m id) (hty : typeOf (.builtin id) = pure (.type "method_descriptor")) (mt : MtR X id (LmR m)) :
    PE X (.Call (.Attribute o m apos) args [] pos) (tE κ B (fun _ ρ k => dE n T xk o ρ fun r ρ1 => (match look ρ1 r with
          | some (.lst _) => dVs (dE n T xk) args ρ1 fun ds ρ2 => dListM m r ds ρ2 k
          | _ => False)) (.Call (.Attribute o m apos) args [] pos)) := by
  obtain ⟨h1, h2, h3, hst⟩ := meth_inv hm
  have pa := pa_V hf (fun e ρ k h => dE_noStar h) args
  cases args with
  | nil =>
    refine PE.imp (pe_bm0 PySem.F.plainAttrs_list slot hty mt (hf o) (plain_base h1 _ X.env _) h2) fun σ H Q ⟨F, ρ, k, en, hd, hq⟩ => ⟨F, ρ, _, en, hd, fun r ρ1 v F1 H1 h1 p1 o1 => ?_⟩
    cases hl : look ρ1 r with
    | none => rw [hl] at h1; exact h1.elim
    | some d =>
      rw [hl] at h1
      cases d with
      | lst xs =>
        have rd := o1.rd p1.env hl
        obtain ⟨a, ws, rfl, q1, q2⟩ := rd
        exact ⟨.inl ⟨rfl, ws, SqL.of q1⟩, dListM_ok C o1 p1 (.refl p1.env) .nil h1 hq⟩
      | _ => exact h1.elim
  | cons e es =>
    have hst' := hst
    rw [List.any_cons, Bool.or_eq_false_iff] at hst
    refine PE.imp (pe_bm PySem.F.plainAttrs_list slot hty mt (hf o) pa (plain_base h1 _ X.env _) (few_ok h3 hst') h2 (star_cons hst.1 es X.env) (star_any hst.2 pos X.env)) fun σ H Q ⟨F, ρ, k, en, hd, hq⟩ => ⟨F, ρ, _, en, hd, fun r ρ1 v F1 H1 h1 p1 o1 => ?_⟩
    cases hl : look ρ1 r with
    | none => rw [hl] at h1; exact h1.elim
    | some d =>
      rw [hl] at h1
      cases d with
      | lst xs =>
        have rd := o1.rd p1.env hl
        obtain ⟨a, ws, rfl, q1, q2⟩ := rd
        exact ⟨.inl ⟨rfl, ws, SqL.of q1⟩, F1, ρ1, _, p1.env, h1, fun ds ρ2 vs F2 H2 h2 p2 o2 => dListM_ok C o1 p1 p2 o2 h2 hq⟩
      | _ => exact h1.elim
theorem c_listm (C : CtxOk κ k X T B xk) (hf : ∀ e, PE X e (tE κ B (dE n T xk) e)) {o : Expr} {m : Str} {apos pos : Pos} {args : List Expr} (hm : methOk o apos pos args = true) (hk : m = ("append" : Str) ∨ m = ("pop" : Str) ∨ m = ("insert" : Str) ∨ m = ("reverse" : Str)) :
    PE X (.Call (.Attribute o m apos) args [] pos) (tE κ B (fun _ ρ k => dE n T xk o ρ fun r ρ1 => (match look ρ1 r with
          | some (.lst _) => dVs (dE n T xk) args ρ1 fun ds ρ2 => dListM m r ds ρ2 k
          | _ => False)) (.Call (.Attribute o m apos) args [] pos)) := by
  rcases hk with rfl | rfl | rfl | rfl
  · exact c_listm1 C hf hm PySem.F.slot_list_append PySem.F.type_list_append mt_append
  · exact c_listm1 C hf hm PySem.F.slot_list_pop PySem.F.type_list_pop mt_popAt
  · exact c_listm1 C hf hm PySem.F.slot_list_insert PySem.F.type_list_insert mt_insert
  · exact c_listm1 C hf hm PySem.F.slot_list_reverse PySem.F.type_list_reverse mt_reverse
/-! ### methods of texts -/
def rSplit : V → List V → Hp → VK → Prop := fun x xs H Q => ∃ a b, x = .str a ∧ xs = [.str b] ∧ (b.length == 0) = false ∧ a.length + 2 ≤ sizeLine ∧ rNewStrs (Txt.split a b) H Q
def rJoin (K : PySem.W.Frag) : V → List V → Hp → VK → Prop := fun x xs H Q => ∃ a p, ∃ ys : List Str, x = .str a ∧ xs = [.ref p] ∧ (SqL K H p (ys.map V.str) ∨ SqT K H p (ys.map V.str)) ∧ (ys.map (·.length)).sum + ys.length * a.length ≤ 16777216 ∧ Q (.str (Txt.join a ys)) H
def rRemP : V → List V → Hp → VK → Prop := fun x xs H Q => ∃ a b, x = .str a ∧ xs = [.str b] ∧ a.length ≤ sizeLine ∧ Q (.str (Txt.removeprefix a b)) H
def SmR (K : PySem.W.Frag) (m : Str) : V → List V → Hp → VK → Prop := if m = ("split" : Str) then rSplit else if m = ("join" : Str) then rJoin K else if m = ("removeprefix" : Str) then rRemP else fun _ _ _ _ => False
theorem txts_rep {F : Hp} : ∀ {ds : List D} {vs : List V} {zs : List Str}, RepL κ F ds vs → txts ds = some zs → vs = zs.map V.str
  | [], _, _, r, e => by cases e; rw [r.nil_inv]; rfl
  | d :: ds, _, zs, r, e => by
    obtain ⟨v, r', rfl, rd, r2⟩ := r.cons_inv
    cases d with
    | str z =>
      have e : (txts ds).map (z :: ·) = some zs := e
      cases q : txts ds with
      | none => rw [q] at e; cases e
      | some ys =>
        rw [q] at e
        cases e
        cases rd
        rw [txts_rep r2 q]; rfl
    | _ => cases e
theorem rep_txts {F : Hp} : ∀ (ys : List Str), RepL κ F (ys.map D.str) (ys.map V.str)
  | [] => .nil
  | y :: ys => .cons rfl (rep_txts ys)
theorem dStrM_ok (C : CtxOk κ k X T B xk) {F H F0 H0 : Hp} {σ : L2.St} {ρ0 ρ : Env'} {m z : Str} {ds : List D} {vs : List V} {kr : R → Prop} {Q : VK} (hr : RdL κ F H ds vs) (p : Post κ B F0 H0 σ ρ0 F H ρ) (hd : dStrM m z ds kr) (hq : Wants κ B F0 H0 σ ρ0 ρ kr Q) : SmR X.K m (.str z) vs H Q := by
  unfold dStrM at hd
  unfold SmR
  by_cases m1 : m = ("split" : Str)
  · rw [if_pos m1] at hd ⊢
    split at hd
    · obtain ⟨v, rfl, h⟩ := hr.one; cases h
      exact ⟨z, _, rfl, rfl, hd.1.1, hd.1.2, fun q hn => hq.lst p (rep_txts _) hn hd.2⟩
    · exact hd.elim
  · rw [if_neg m1] at hd ⊢
    by_cases m2 : m = ("join" : Str)
    · rw [if_pos m2] at hd ⊢
      split at hd
      · split at hd
        · rename_i e
          obtain ⟨v, rfl, a, ws, rfl, h, rl⟩ := hr.one
          exact ⟨z, a, _, rfl, rfl, .inl (SqL.of (by rw [h, txts_rep rl e])), hd.1, hq.val p hd.2 rfl⟩
        · exact hd.elim
      · split at hd
        · rename_i e
          obtain ⟨v, rfl, h⟩ := hr.one
          have h : Rep κ F _ _ := h
          unfold Rep at h
          obtain ⟨a, ws, rfl, h, rl⟩ := h
          have h' := (same_t p.env.sub h).sq
          rw [txts_rep rl e, ← C.hK] at h'
          exact ⟨z, a, _, rfl, rfl, .inr h', hd.1, hq.val p hd.2 rfl⟩
        · exact hd.elim
      · exact hd.elim
    · rw [if_neg m2] at hd ⊢
      by_cases m3 : m = ("removeprefix" : Str)
      · rw [if_pos m3] at hd ⊢
        split at hd
        · obtain ⟨v, rfl, h⟩ := hr.one; cases h
          exact ⟨z, _, rfl, rfl, hd.1, hq.val p hd.2 rfl⟩
        · exact hd.elim
      · rw [if_neg m3] at hd; exact hd.elim
theorem c_strm1 (C : CtxOk κ k X T B xk) (hf : ∀ e, PE X e (tE κ B (dE n T xk) e)) {o : Expr} {m : Str} {apos pos : Pos} {args : List Expr} {id : String} (hm : methOk o apos pos args = true)
    (slot : Slot "str" m id) (hty : typeOf (.builtin id) = pure (.type "method_descriptor")) (mt : MtR X id (SmR X.K m)) :
    PE X (.Call (.Attribute o m apos) args [] pos) (tE κ B (fun _ ρ k => dE n T xk o ρ fun r ρ1 => (match look ρ1 r with
          | some (.str x) => dRs (dE n T xk) args ρ1 fun rs ρ2 => (match looks ρ2 rs with
            | some ds => dStrM m x ds fun r => k r ρ2
            | none => False)
          | _ => False)) (.Call (.Attribute o m apos) args [] pos)) := by
  obtain ⟨h1, h2, h3, hst⟩ := meth_inv hm
  have pa := pa_R hf (fun e ρ k h => dE_noStar h) args
  cases args with
  | nil =>
    refine PE.imp (pe_bm0 PySem.F.plainAttrs_str slot hty mt (hf o) (plain_base h1 _ X.env _) h2) fun σ H Q ⟨F, ρ, k, en, hd, hq⟩ => ⟨F, ρ, _, en, hd, fun r ρ1 v F1 H1 h1 p1 o1 => ?_⟩
    cases hl : look ρ1 r with
    | none => rw [hl] at h1; exact h1.elim
    | some d =>
      rw [hl] at h1
      cases d with
      | str z =>
        have rd := o1.rd p1.env hl
        cases rd
        exact ⟨rfl, dStrM_ok C (ds := []) .nil p1 h1 fun r v F' H' hk p o => hq r ρ1 v F' H' hk p o⟩
      | _ => exact h1.elim
  | cons e es =>
    have hst' := hst
    rw [List.any_cons, Bool.or_eq_false_iff] at hst
    refine PE.imp (pe_bm PySem.F.plainAttrs_str slot hty mt (hf o) pa (plain_base h1 _ X.env _) (few_ok h3 hst') h2 (star_cons hst.1 es X.env) (star_any hst.2 pos X.env)) fun σ H Q ⟨F, ρ, k, en, hd, hq⟩ => ⟨F, ρ, _, en, hd, fun r ρ1 v F1 H1 h1 p1 o1 => ?_⟩
    cases hl : look ρ1 r with
    | none => rw [hl] at h1; exact h1.elim
    | some d =>
      rw [hl] at h1
      cases d with
      | str z =>
        have rd := o1.rd p1.env hl
        cases rd
        refine ⟨rfl, F1, ρ1, _, p1.env, h1, fun rs ρ2 vs F2 H2 h2 p2 o2 => ?_⟩
        obtain ⟨ds, e, h2⟩ := looks_inv h2
        exact dStrM_ok C (o2.rd p2.env e) (p1.trans p2) h2 fun r v F' H' hk p o => hq r ρ2 v F' H' hk p o
      | _ => exact h1.elim
theorem c_strm (C : CtxOk κ k X T B xk) (hf : ∀ e, PE X e (tE κ B (dE n T xk) e)) {o : Expr} {m : Str} {apos pos : Pos} {args : List Expr} (hm : methOk o apos pos args = true) (hk : m = ("split" : Str) ∨ m = ("join" : Str) ∨ m = ("removeprefix" : Str)) :
    PE X (.Call (.Attribute o m apos) args [] pos) (tE κ B (fun _ ρ k => dE n T xk o ρ fun r ρ1 => (match look ρ1 r with
          | some (.str x) => dRs (dE n T xk) args ρ1 fun rs ρ2 => (match looks ρ2 rs with
            | some ds => dStrM m x ds fun r => k r ρ2
            | none => False)
          | _ => False)) (.Call (.Attribute o m apos) args [] pos)) := by
  rcases hk with rfl | rfl | rfl
  · exact c_strm1 C hf hm PySem.F.slot_str_split PySem.F.type_str_split mt_split
  · exact c_strm1 C hf hm PySem.F.slot_str_join PySem.F.type_str_join mt_join
  · exact c_strm1 C hf hm PySem.F.slot_str_removeprefix PySem.F.type_str_removeprefix mt_removeprefix
end
end DL

set_option Elab.async false
set_option linter.all false
set_option maxRecDepth 100000
set_option maxHeartbeats 2000000
/-! DLen: enumerate(tuple). -/
namespace PySem
open Sem (wp)
open AutoSeq1 (wpAny_loadPart')
theorem dl_enumerate_newT (l : Addr) (items : Array Value) (n : Nat) (dct : Option Addr) (sl : Array (Option Value)) :
    Meets (Builtin.«enumerate.__new__» ⟨[.type "enumerate", .ref l], []⟩) (fun _ R s => s.heap.get? l = some { cls := .type "tuple", dict := dct, data := .seq items n, slots := sl } ∧
      R (.ok (.ret (.ref (s.heap.push { cls := .type "tuple_iterator", data := .fields #[.ref l, .int 0 0] }).objs.size)))
        { s with heap := (s.heap.push { cls := .type "tuple_iterator", data := .fields #[.ref l, .int 0 0] }).push { cls := .type "enumerate", data := .fields #[.none, .bool false, .ref s.heap.objs.size, rawInt 0, .none, .none] } }) :=
  .of_wp fun prog w A R s h => by
    obtain ⟨hp, g, d, tk, os⟩ := s; obtain ⟨hl, h⟩ := h
    have hsub := sub_enumerate
    have hL : Heap.IsTuple (Shared.heap ⟨hp, g, d, tk, os⟩) l items := ⟨_, hl, rfl, n, rfl⟩
    wp_walk using wpAny_loadPart' hl
    refine wpAny_stack_any fun st => wpAny_pure ?_
    split
    · rename_i c _ _ _ _ _
      cases (c == Value.type "enumerate")
      · wp_walk using wpAny_loadPart' hl, wpAny_pyIter_tuple hL
        exact ⟨_, rfl, h⟩
      · wp_walk using wpAny_loadPart' hl, wpAny_pyIter_tuple hL
        exact ⟨_, rfl, h⟩
    · wp_walk using wpAny_loadPart' hl, wpAny_pyIter_tuple hL
      exact ⟨_, rfl, h⟩
section
variable {prog : Program} {w : World} {A : Around} {E : Value → Shared → Prop} {s : Shared}
theorem dl_call_enumerate_tuple {l : Addr} {items : Array Value} {Q : Value → Shared → Prop} (hL : s.heap.IsTuple l items)
    (h : ∀ h', IsEnum h' (s.heap.objs.size + 1) s.heap.objs.size 0 .none → h'.IsTupleIter s.heap.objs.size l 0 → h'.objs.size = s.heap.objs.size + 2 →
      (∀ b o, s.heap.get? b = some o → h'.get? b = some o) → Q (.ref (s.heap.objs.size + 1)) { s with heap := h' }) :
    wpAny (model prog w) A (call (.type "enumerate") [.ref l]) Q E s := by
  obtain ⟨⟨c, dct, dt, sl⟩, hl, hc, n, hd⟩ := hL
  replace hc : c = .type "tuple" := hc
  replace hd : dt = .seq items n := hd
  subst hc hd
  refine callType_new F.called_enumerate (by decide) (F.typeCall_enumerate_1 _) (F.newCall_enumerate_1 _) (fun obj => F.args_object_init_2 obj _) F.entry_enumerate_new
    (dl_enumerate_newT l items n dct sl) ⟨hl, ?_⟩
  have hz : (s.heap.push { cls := .type "tuple_iterator", data := .fields #[.ref l, .int 0 0] }).objs.size = s.heap.objs.size + 1 := Heap.size_push ..
  show _ ∧ _
  rw [hz]
  have he : IsEnum ((s.heap.push { cls := .type "tuple_iterator", data := .fields #[.ref l, .int 0 0] }).push
      { cls := .type "enumerate", data := .fields #[.none, .bool false, .ref s.heap.objs.size, rawInt 0, .none, .none] }) (s.heap.objs.size + 1) s.heap.objs.size 0 .none := by
    have := Heap.get?_push_size (s.heap.push { cls := .type "tuple_iterator", data := .fields #[.ref l, .int 0 0] })
      (o := { cls := .type "enumerate", data := .fields #[.none, .bool false, .ref s.heap.objs.size, rawInt 0, .none, .none] }) rfl
    rw [hz] at this; exact this
  refine ⟨⟨_, he, rfl⟩, h _ he ⟨_, Heap.get?_push_of_some _ (Heap.get?_push_size _ rfl), rfl, rfl⟩ (by rw [Heap.size_push, hz]) fun b o x => Heap.get?_push_of_some _ (Heap.get?_push_of_some _ x)⟩
end
end PySem
namespace DL
open PySem PySem.Spec PyProof.Rows L2
/-- the tuple at a, each item in a new pair -/
def IteT (K : PySem.W.Frag) (a : Addr) : It :=
  ⟨fun i H => ∃ (xs : List V) (x : V), SqT K H a xs ∧ xs[i]? = some x, fun i H v H' => ∃ T x, v = .ref T ∧ H T = none ∧ H' = upd H T (.tup [.int (i : Nat), x]) ∧ ∀ xs, SqT K H a xs → xs[i]? = some x, fun i H => ∃ xs : List V, SqT K H a xs ∧ xs.length = i⟩
theorem turn_enumT {P : Program} {w : World} {K : PySem.W.Frag} {elts : List Expr} {kk : Nat} {tpos : Pos} (a e it : Addr) (hai : a ≠ it) (hae : a ≠ e) :
    Turn P w K (.Tuple elts kk tpos) (IteT K a) [e, it] e (fun i h => (∃ old, IsEnum h e it ((i : Nat) : Int) old) ∧ h.IsTupleIter it a i ∧ e ≠ it) where
  mem := by simp
  obj := fun i h st b hb => by
    obtain ⟨⟨old, he⟩, ⟨o, ho, hc, hd⟩, _⟩ := st
    have e' : b = e ∨ b = it := by simpa using hb
    rcases e' with z | z
    · rw [z]; exact ⟨_, he, fun v q => nomatch q⟩
    · rw [z]; exact ⟨o, ho, fun v q => by rw [hd] at q; cases q⟩
  keep := fun i h h' st k => let ⟨⟨old, he⟩, hi, hne⟩ := st; ⟨⟨old, k e (by simp) _ he⟩, hi.at fun o q => k it (by simp) o q, hne⟩
  item := by
    intro X hP hw hK hc i pins s σ H E I hf st hg
    subst hP hw hK
    obtain ⟨⟨old, he⟩, hit, hne⟩ := st
    obtain ⟨xs, x, hq, hx⟩ := hg
    obtain ⟨its, rv, p, hz⟩ := I.tuple hq
    have D := Draws.tuple (prog := X.prog) (w := X.w) (A := X.A.in1) (I.ok.hd hc) it a hai its.toArray
    have hi : i < its.toArray.size := by
      have := (List.getElem?_eq_some_iff.mp hx).1
      rw [rv.length] at this; simpa using this
    have hel : e < s.heap.objs.size := Heap.lt_size he
    have hil : it < s.heap.objs.size := by obtain ⟨_, q, _⟩ := hit; exact Heap.lt_size q
    refine wpAny_pyNext_enum_itemD D he ⟨hit, p⟩ hi hne (by simp only [List.mem_cons, List.not_mem_nil, or_false, not_or]; exact ⟨hne, fun z => hae z.symm⟩) fun u h' tk hPu ho hit' hT hsz hk => ?_
    refine ⟨_, rfl, wpAny_letOwnedTupleGo_enum (s := { s with heap := h', toks := tk + 1 }) ho fun h'' he' sb => ?_⟩
    have hu : its[i]? = some u := by simpa using hPu
    obtain ⟨x', hx', rux⟩ : ∃ x', xs[i]? = some x' ∧ RelV x' u := by
      obtain ⟨u', hu', r'⟩ := rv.get hx
      rw [hu] at hu'; cases hu'
      exact ⟨x, hx, r'⟩
    rw [hx] at hx'; cases hx'
    have hT2 : h''.get? s.heap.objs.size = some { cls := .type "tuple", data := .seq #[.int i tk, u] } := (sb.2 _ (Nat.ne_of_gt hel)).trans hT
    have new : ObjOk X.prog X.w (upd H s.heap.objs.size (.tup [.int (i : Nat), x])) h'' s.heap.objs.size (.tup [.int (i : Nat), x]) :=
      ⟨by show 2 ≤ sizeLine; decide, [.int i tk, u], .cons ⟨_, rfl⟩ (.cons rux .nil), ⟨_, hT2, rfl, _, rfl⟩⟩
    have I1 : Inv X pins σ (upd H s.heap.objs.size (.tup [.int (i : Nat), x])) { s with heap := h'', toks := tk + 1 } :=
      I.turnedNew (ch := [e, it]) (fun b ob hb q => (sb.2 b (fun z => hb (by simp [z]))).trans (hk b ob (fun z => hb (by simp [z])) (fun z => hb (by simp [z])) q)) hf (Nat.le_refl _) new
    refine ⟨.ref s.heap.objs.size, _, I1, rfl, ⟨_, x, rfl, I.hok.fresh (Nat.le_refl _), rfl, fun ys hy => by rw [I.tuple_inj hy hq]; exact hx⟩, ⟨⟨u, ?_⟩, hit'.1.at fun o q => (sb.2 it (Ne.symm hne)).trans q, hne⟩, fun b hb => ?_⟩
    · have e1 : ((i + 1 : Nat) : Int) = (i : Int) + 1 := by omega
      rw [e1]; exact he'
    · have hb' : b < s.heap.objs.size := by
        have e' : b = e ∨ b = it := by simpa using hb
        rcases e' with z | z
        · rw [z]; exact hel
        · rw [z]; exact hil
      rw [upd_ne (Nat.ne_of_lt hb')]
      exact (hf b hb).1
  done := by
    intro X hP hw hK hc i pins s σ H E I hf st hg
    subst hP hw hK
    obtain ⟨⟨old, he⟩, hit, hne⟩ := st
    obtain ⟨xs, hq, hx⟩ := hg
    obtain ⟨its, rv, p, hz⟩ := I.tuple hq
    obtain ⟨f0, f1, f2, f3, f4, f5⟩ := hf it (by simp)
    have D := Draws.tuple (prog := X.prog) (w := X.w) (A := X.A.in1) (I.ok.hd hc) it a hai its.toArray
    have en : i = its.toArray.size := by rw [← hx, rv.length]; simp
    rw [en] at hit
    exact wpAny_pyNext_enum_endD D he ⟨hit, p⟩ fun h' eb => ⟨rfl, I.turned (t' := s.toks) (fun b o hb q => eb b o hb q) f0 f1 f3 f4 f5⟩
  self := fun A i s Q E st h => let ⟨⟨_, he⟩, _⟩ := st; wpAny_pyIter_enum he h
theorem pi_enumT {X : Cx} {e : Expr} {ta : TA} {p pos tpos : Pos} {elts : List Expr} {kk : Nat} (hg : Gl X "enumerate") (hm : X.mg "enumerate" = none) (ha : PA X [e] ta) (hs : starEach [e] X.env = [(false, eval e X.env)]) :
    PI X (.Tuple elts kk tpos) (.Call (.Name "enumerate" p) [e] [] pos) (fun σ H R => ta σ H fun vs H1 => ∃ a xs, vs = [.ref a] ∧ ((SqL X.K H1 a xs ∧ R (Ite X.K a) H1) ∨ (SqT X.K H1 a xs ∧ R (IteT X.K a) H1))) := by
  refine ⟨fun pins s σ H R I h => ?_⟩
  refine Call_ (ld_blt I hg hm boot_enumerate (PyProof.Rows.callWith_type1 (thn (ha.run pos pins s σ H _ I h) fun us s1 ⟨vs, H1, I1, r1, q1⟩ => ?_) hs rfl))
  obtain ⟨a, xs, ex, q⟩ := q1
  subst ex
  cases r1 with
  | cons r rr =>
    cases rr
    cases r
    have hle : ∀ b, (b = s1.heap.objs.size + 1 ∨ b = s1.heap.objs.size) → s1.heap.objs.size ≤ b := fun b e' => by
      rcases e' with z | z
      · rw [z]; exact Nat.le_add_right _ _
      · rw [z]; exact Nat.le_refl _
    rcases q with ⟨hq, q⟩ | ⟨hq, q⟩
    · obtain ⟨its, rv, p', hz⟩ := I1.list hq
      refine call_enumerate_list p'.isList fun h' he hit hsz hk => wpAny_pyIter_enum he ?_
      have I2 : Inv X pins σ H1 { s1 with heap := h' } := I1.kept (t' := s1.toks) hk
      refine ⟨s1.heap.objs.size + 1, [s1.heap.objs.size + 1, s1.heap.objs.size], _, _, H1, rfl, I2, turn_enum a (s1.heap.objs.size + 1) s1.heap.objs.size, ⟨⟨.none, he⟩, hit, Nat.succ_ne_self _⟩, fun b hb => ?_, q⟩
      have e' := hle b (by simpa using hb)
      exact I1.fpOk e' (I1.hok.fresh e')
    · obtain ⟨its, rv, p', hz⟩ := I1.tuple hq
      have hlt : a < s1.heap.objs.size := p'.lt
      refine dl_call_enumerate_tuple p' fun h' he hit hsz hk => wpAny_pyIter_enum he ?_
      have I2 : Inv X pins σ H1 { s1 with heap := h' } := I1.kept (t' := s1.toks) hk
      refine ⟨s1.heap.objs.size + 1, [s1.heap.objs.size + 1, s1.heap.objs.size], _, _, H1, rfl, I2, turn_enumT a (s1.heap.objs.size + 1) s1.heap.objs.size (Nat.ne_of_lt hlt) (Nat.ne_of_lt (Nat.lt_succ_of_lt hlt)), ⟨⟨.none, he⟩, hit, Nat.succ_ne_self _⟩, fun b hb => ?_, q⟩
      have e' := hle b (by simpa using hb)
      exact I1.fpOk e' (I1.hok.fresh e')
end DL

set_option Elab.async false
set_option linter.all false
set_option maxRecDepth 100000
set_option maxHeartbeats 1000000
/-! DL10: what is walked; targets; comprehensions. -/
namespace DL
open PySem PySem.Spec PyProof.Rows L2 RZ

/-- J goes through ds -/
structure Walks (κ : KB) (F0 : Hp) (J : It) (ds : List D) : Prop where
  go : ∀ i H, Same F0 H → i < ds.length → J.go i H
  stop : ∀ H, Same F0 H → J.stop ds.length H
  yld : ∀ i F H x H', Same F0 F → Same F H → i < ds.length → J.yld i H x H' → ∃ d F2, ds[i]? = some d ∧ Same F F2 ∧ Same H H' ∧ Same F2 H' ∧ (∀ a, F a = none → F2 a ≠ none → H a = none) ∧ Rep κ F2 d x

section
variable {κ : KB} {K : PySem.W.Frag} {F0 : Hp}
theorem no_new {F H : Hp} : ∀ a : Addr, F a = none → F a ≠ none → H a = none := fun a h h' => absurd h h'
theorem walks_list {a : Addr} {vs : List V} {ds : List D} (h : F0 a = some (.lst vs)) (r : RepL κ F0 ds vs) : Walks κ F0 (Itl K a) ds where
  go := fun i H s hi => ⟨vs, vs[i]'(by rw [← r.len]; exact hi), SqL.of (s _ _ h), List.getElem?_eq_getElem _⟩
  stop := fun H s => ⟨vs, SqL.of (s _ _ h), by rw [r.len]; exact Nat.le_refl _⟩
  yld := fun i F H x H' s0 s hi y => by
    obtain ⟨rfl, y⟩ := y
    obtain ⟨d, e1, e2⟩ := r.getV (y vs (SqL.of (s _ _ (s0 _ _ h))))
    exact ⟨d, F, e1, Same.refl F, Same.refl _, s, no_new, e2.mono s0⟩
theorem walks_tup {a : Addr} {vs : List V} {ds : List D} (h : TqT K F0 a vs) (r : RepL κ F0 ds vs) : Walks κ F0 (Itt K a) ds where
  go := fun i H s hi => ⟨vs, vs[i]'(by rw [← r.len]; exact hi), (same_t s h).sq, List.getElem?_eq_getElem _⟩
  stop := fun H s => ⟨vs, (same_t s h).sq, by rw [r.len]; exact Nat.le_refl _⟩
  yld := fun i F H x H' s0 s hi y => by
    obtain ⟨rfl, y⟩ := y
    obtain ⟨d, e1, e2⟩ := r.getV (y vs (same_t s (same_t s0 h)).sq)
    exact ⟨d, F, e1, Same.refl F, Same.refl _, s, no_new, e2.mono s0⟩
theorem walks_str (z : Str) : Walks κ F0 (Its z) (z.cps.toList.map fun c => D.str ⟨#[c]⟩) where
  go := fun i H s hi => by show i < z.cps.size; simpa using hi
  stop := fun H s => by show z.cps.size ≤ _; simp
  yld := fun i F H x H' s0 s hi y => by
    obtain ⟨rfl, c, y1, y2⟩ := y
    refine ⟨.str ⟨#[c]⟩, F, ?_, Same.refl F, Same.refl _, s, no_new, y2⟩
    rw [List.getElem?_map, Array.getElem?_toList, y1]; rfl
theorem upTo_len (lo : Int) (n : Nat) : (upTo lo n).length = n := by unfold upTo; simp
theorem walks_range (lo : Int) (n : Nat) : Walks κ F0 (Itr lo n) (upTo lo n) where
  go := fun i H s hi => by rw [upTo_len] at hi; exact hi
  stop := fun H s => by rw [upTo_len]; exact Nat.le_refl _
  yld := fun i F H x H' s0 s hi y => by
    obtain ⟨rfl, y⟩ := y
    rw [upTo_len] at hi
    refine ⟨.int (lo + (i : Nat)), F, ?_, Same.refl F, Same.refl _, s, no_new, y⟩
    unfold upTo
    rw [List.getElem?_map, List.getElem?_range hi]; rfl
theorem numbered_get : ∀ (ds : List D) (j i : Nat), (numbered j ds)[i]? = (ds[i]?).map fun d => D.tup [.int ((j + i : Nat) : Int), d]
  | [], _, _ => by simp [numbered]
  | d :: ds, j, 0 => by simp [numbered]
  | d :: ds, j, i + 1 => by
    simp only [numbered, List.getElem?_cons_succ]
    rw [numbered_get ds (j + 1) i, show j + 1 + i = j + (i + 1) by omega]
theorem numbered_len : ∀ (ds : List D) (j : Nat), (numbered j ds).length = ds.length
  | [], _ => rfl
  | d :: ds, j => by simp [numbered, numbered_len ds]
theorem pair_new {F H : Hp} {T : Addr} {x1 x2 : V} {d1 d2 : D} (s : Same F H) (hT : H T = none) (r1 : Rep κ F d1 x1) (r2 : Rep κ F d2 x2) :
    ∃ F2, Same F F2 ∧ Same H (upd H T (.tup [x1, x2])) ∧ Same F2 (upd H T (.tup [x1, x2])) ∧ (∀ a, F a = none → F2 a ≠ none → H a = none) ∧ Rep κ F2 (.tup [d1, d2]) (.ref T) := by
  have hF : F T = none := s.free hT
  have sF : Same F (upd F T (.tup [x1, x2])) := same_new hF
  refine ⟨upd F T (.tup [x1, x2]), sF, same_new hT, fun b o q => ?_, fun a ha hb => ?_, ?_⟩
  · by_cases e : b = T
    · subst e; rw [upd_same] at q ⊢; exact q
    · rw [upd_ne e] at q ⊢; exact s _ _ q
  · by_cases e : a = T
    · subst e; exact hT
    · rw [upd_ne e] at hb; exact absurd ha hb
  · unfold Rep
    exact ⟨T, _, rfl, .inl upd_same, .cons (r1.mono sF) (.cons (r2.mono sF) .nil)⟩
theorem walks_enum {a : Addr} {vs : List V} {ds : List D} (h : F0 a = some (.lst vs)) (r : RepL κ F0 ds vs) : Walks κ F0 (Ite K a) (numbered 0 ds) where
  go := fun i H s hi => by rw [numbered_len] at hi; exact ⟨vs, vs[i]'(by rw [← r.len]; exact hi), SqL.of (s _ _ h), List.getElem?_eq_getElem _⟩
  stop := fun H s => ⟨vs, SqL.of (s _ _ h), by rw [numbered_len, r.len]; exact Nat.le_refl _⟩
  yld := fun i F H x H' s0 s hi y => by
    obtain ⟨T, y0, rfl, hT, rfl, y⟩ := y
    obtain ⟨d, e1, e2⟩ := r.getV (y vs (SqL.of (s _ _ (s0 _ _ h))))
    obtain ⟨F2, q1, q2, q3, q4, q5⟩ := pair_new (d1 := .int (i : Nat)) s hT rfl (e2.mono s0)
    refine ⟨_, F2, ?_, q1, q2, q3, q4, q5⟩
    rw [numbered_get, e1, Nat.zero_add]; rfl
theorem walks_enumT {a : Addr} {vs : List V} {ds : List D} (h : TqT K F0 a vs) (r : RepL κ F0 ds vs) : Walks κ F0 (IteT K a) (numbered 0 ds) where
  go := fun i H s hi => by rw [numbered_len] at hi; exact ⟨vs, vs[i]'(by rw [← r.len]; exact hi), (same_t s h).sq, List.getElem?_eq_getElem _⟩
  stop := fun H s => ⟨vs, (same_t s h).sq, by rw [numbered_len, r.len]⟩
  yld := fun i F H x H' s0 s hi y => by
    obtain ⟨T, y0, rfl, hT, rfl, y⟩ := y
    obtain ⟨d, e1, e2⟩ := r.getV (y vs (same_t s (same_t s0 h)).sq)
    obtain ⟨F2, q1, q2, q3, q4, q5⟩ := pair_new (d1 := .int (i : Nat)) s hT rfl (e2.mono s0)
    refine ⟨_, F2, ?_, q1, q2, q3, q4, q5⟩
    rw [numbered_get, e1, Nat.zero_add]; rfl
theorem walks_zip {a b : Addr} {vs ws : List V} {ds es : List D} (h : F0 a = some (.lst vs)) (h' : F0 b = some (.lst ws)) (r : RepL κ F0 ds vs) (r' : RepL κ F0 es ws) : Walks κ F0 (Itz K a b) (List.zipWith (fun x y => D.tup [x, y]) ds es) where
  go := fun i H s hi => by
    rw [List.length_zipWith] at hi
    exact ⟨vs, ws, vs[i]'(by rw [← r.len]; omega), ws[i]'(by rw [← r'.len]; omega), SqL.of (s _ _ h), SqL.of (s _ _ h'), List.getElem?_eq_getElem _, List.getElem?_eq_getElem _⟩
  stop := fun H s => ⟨vs, ws, SqL.of (s _ _ h), SqL.of (s _ _ h'), by rw [List.length_zipWith, ← r.len, ← r'.len]; omega⟩
  yld := fun i F H x H' s0 s hi y => by
    obtain ⟨T, y1, y2, rfl, hT, rfl, f1, f2⟩ := y
    obtain ⟨d, e1, e2⟩ := r.getV (f1 vs (SqL.of (s _ _ (s0 _ _ h))))
    obtain ⟨d', e1', e2'⟩ := r'.getV (f2 ws (SqL.of (s _ _ (s0 _ _ h'))))
    obtain ⟨F2, q1, q2, q3, q4, q5⟩ := pair_new s hT (e2.mono s0) (e2'.mono s0)
    exact ⟨_, F2, by rw [List.getElem?_zipWith, e1, e1'], q1, q2, q3, q4, q5⟩
theorem walks_zipT {a b : Addr} {vs ws : List V} {ds es : List D} (h : TqT K F0 a vs) (h' : TqT K F0 b ws) (r : RepL κ F0 ds vs) (r' : RepL κ F0 es ws) : Walks κ F0 (ItzT K a b) (List.zipWith (fun x y => D.tup [x, y]) ds es) where
  go := fun i H s hi => by
    rw [List.length_zipWith] at hi
    exact ⟨vs, ws, vs[i]'(by rw [← r.len]; omega), ws[i]'(by rw [← r'.len]; omega), (same_t s h).sq, (same_t s h').sq, List.getElem?_eq_getElem _, List.getElem?_eq_getElem _⟩
  stop := fun H s => ⟨vs, ws, (same_t s h).sq, (same_t s h').sq, by rw [List.length_zipWith, ← r.len, ← r'.len]; omega⟩
  yld := fun i F H x H' s0 s hi y => by
    obtain ⟨T, y1, y2, rfl, hT, rfl, f1, f2⟩ := y
    obtain ⟨d, e1, e2⟩ := r.getV (f1 vs (same_t s (same_t s0 h)).sq)
    obtain ⟨d', e1', e2'⟩ := r'.getV (f2 ws (same_t s (same_t s0 h')).sq)
    obtain ⟨F2, q1, q2, q3, q4, q5⟩ := pair_new s hT (e2.mono s0) (e2'.mono s0)
    exact ⟨_, F2, by rw [List.getElem?_zipWith, e1, e1'], q1, q2, q3, q4, q5⟩
end

section
variable {κ : KB} {k : Nat} {X : Cx} {T : Tab} {B : Hp} {xk : DX → Prop} {n : Nat}
def tI (κ : KB) (B : Hp) (T : Tab) (f : Expr → Env' → KR → Prop) (tg e : Expr) : TI := fun σ H R => ∃ (F : Hp) (ρ : Env') (k : List D → Env' → Prop), EnvOk κ B F H σ ρ ∧ dIter f T tg e ρ k ∧ ∀ ds ρ' F' H' J, k ds ρ' → Post κ B F H σ ρ F' H' ρ' → Walks κ F' J ds → R J H'
theorem PI.imp {tg e : Expr} {t t' : TI} (h : PI X tg e t) (i : ∀ σ H R, t' σ H R → t σ H R) : PI X tg e t' := ⟨fun pins s σ H R I q => h.run pins s σ H R I (i σ H R q)⟩
theorem PI.no {tg e : Expr} {t : TI} (i : ∀ σ H R, t σ H R → False) : PI X tg e t := ⟨fun _ _ σ H R _ q => (i σ H R q).elim⟩
/-- a value that is walked: a list, a tuple, a text -/
theorem pi_any {tg e : Expr} {te : TE} (he : PE X e te) : PI X tg e (fun σ H R => te σ H fun x H1 => (∃ a xs, x = .ref a ∧ SqL X.K H1 a xs ∧ R (Itl X.K a) H1) ∨ (∃ a xs, x = .ref a ∧ SqT X.K H1 a xs ∧ R (Itt X.K a) H1) ∨ ∃ z, x = .str z ∧ R (Its z) H1) := by
  refine ⟨fun pins s σ H R I h => ?_⟩
  refine thn (he.run pins s σ H _ I h) fun v s1 ⟨x, H1, I1, r1, q1⟩ => ?_
  rcases q1 with ⟨a, xs, e, hq, q⟩ | ⟨a, xs, e, hq, q⟩ | ⟨z, e, q⟩
  · subst e
    cases r1
    obtain ⟨its, rv, p, hz⟩ := I1.list hq
    refine wpAny_pyIter_list p.isList ?_
    refine ⟨s1.heap.objs.size, [s1.heap.objs.size], _, _, H1, rfl, I1.kept (t' := s1.toks) fun b o e => Heap.get?_push_of_some _ e, turn_list a _, ⟨_, Heap.get?_push_size _ rfl, rfl, rfl⟩, fun b hb => ?_, q⟩
    have e : b = s1.heap.objs.size := by simpa using hb
    subst e
    exact I1.fpOk (Nat.le_refl _) (I1.hok.fresh (Nat.le_refl _))
  · subst e
    cases r1
    obtain ⟨its, rv, p, hz⟩ := I1.tuple hq
    refine wpAny_pyIter_tuple (show s1.heap.IsTuple a its.toArray from p) ?_
    refine ⟨s1.heap.objs.size, [s1.heap.objs.size], _, _, H1, rfl, I1.kept (t' := s1.toks) fun b o e => Heap.get?_push_of_some _ e, turn_tuple a _, ⟨_, Heap.get?_push_size _ rfl, rfl, rfl⟩, fun b hb => ?_, q⟩
    have e : b = s1.heap.objs.size := by simpa using hb
    subst e
    exact I1.fpOk (Nat.le_refl _) (I1.hok.fresh (Nat.le_refl _))
  · subst e
    obtain ⟨t, rfl⟩ := r1
    cases ha : z.cps.all (· < 128)
    · exact wpAny_pyIter_wide ha (pi_one (tk := s1.toks) I1 _ (turn_str _ z t "str_iterator" (.inr rfl)) ⟨_, Heap.get?_push_size _ rfl, rfl, rfl⟩ q)
    · exact wpAny_pyIter_ascii ha (pi_one (tk := s1.toks) I1 _ (turn_str _ z t "str_ascii_iterator" (.inl rfl)) ⟨_, Heap.get?_push_size _ rfl, rfl, rfl⟩ q)
theorem c_iterO (C : CtxOk κ k X T B xk) (hf : ∀ e, PE X e (tE κ B (dE n T xk) e)) {tg e : Expr} (hk : iterKind T e = .other) : PI X tg e (tI κ B T (dE n T xk) tg e) := by
  refine PI.imp (pi_any (hf e)) fun σ H R ⟨F, ρ, k, en, hd, hq⟩ => ?_
  unfold dIter at hd
  rw [hk] at hd
  refine ⟨F, ρ, _, en, hd, fun r ρ1 v F1 H1 h1 p1 o1 => ?_⟩
  obtain ⟨d, ρ1', hz, h1⟩ := frK_inv h1
  obtain ⟨F1', p1', rp⟩ := o1.frz p1 hz
  cases d with
  | lst xs =>
    unfold Rep at rp
    obtain ⟨a, vs, rfl, h, rl⟩ := rp
    exact .inl ⟨a, vs, rfl, SqL.of (p1'.env.sub _ _ h), hq _ _ _ _ _ h1 p1' (walks_list h rl)⟩
  | tup xs =>
    unfold Rep at rp
    obtain ⟨a, vs, rfl, h, rl⟩ := rp
    exact .inr (.inl ⟨a, vs, rfl, by rw [C.hK]; exact (same_t p1'.env.sub h).sq, hq _ _ _ _ _ h1 p1' (by rw [C.hK]; exact walks_tup h rl)⟩)
  | str z => cases rp; exact .inr (.inr ⟨z, rfl, hq _ _ _ _ _ h1 p1' (walks_str z)⟩)
  | _ => exact h1.elim
theorem iterKind_inv {e : Expr} (h : iterKind T e ≠ .other) : ∃ x p args kws pos, e = .Call (.Name x p) args kws pos ∧ T.nm.lookup x = some .globalImplicit ∧ T.g.lookup x = some .blt ∧
    ((iterKind T e = .range ∧ x = ("range" : Str)) ∨ (iterKind T e = .enum ∧ x = ("enumerate" : Str)) ∨ (iterKind T e = .zip ∧ x = ("zip" : Str))) := by
  cases e with
  | Call g args kws pos =>
    cases g with
    | Name x p =>
      have e0 : iterKind T (.Call (.Name x p) args kws pos) = (match T.nm.lookup x, T.g.lookup x with
        | some .globalImplicit, some .blt => if x = ("range" : Str) then .range else if x = ("enumerate" : Str) then .enum else if x = ("zip" : Str) then .zip else .other
        | _, _ => .other) := rfl
      refine ⟨x, p, args, kws, pos, rfl, ?_⟩
      cases h1 : T.nm.lookup x with
      | none => rw [e0, h1] at h; exact absurd rfl h
      | some kd =>
        cases h2 : T.g.lookup x with
        | none => rw [e0, h1, h2] at h; cases kd <;> exact absurd rfl h
        | some gv =>
          cases kd with
          | globalImplicit =>
            cases gv with
            | blt =>
              rw [h1, h2] at e0
              refine ⟨rfl, rfl, ?_⟩
              rw [e0] at h ⊢
              dsimp only at h ⊢
              by_cases e1 : x = ("range" : Str)
              · rw [if_pos e1]; exact .inl ⟨rfl, e1⟩
              · rw [if_neg e1] at h ⊢
                by_cases e2 : x = ("enumerate" : Str)
                · rw [if_pos e2]; exact .inr (.inl ⟨rfl, e2⟩)
                · rw [if_neg e2] at h ⊢
                  by_cases e3 : x = ("zip" : Str)
                  · rw [if_pos e3]; exact .inr (.inr ⟨rfl, e3⟩)
                  · rw [if_neg e3] at h; exact absurd rfl h
            | _ => rw [e0, h1, h2] at h; exact absurd rfl h
          | _ => rw [e0, h1, h2] at h; exact absurd rfl h
    | _ => exact absurd rfl h
  | _ => exact absurd rfl h
theorem iterOk_inv {tg : Expr} {x : Str} {p pos : Pos} {args : List Expr} {kws : List Keyword} (h : iterOk tg (.Call (.Name x p) args kws pos) = true) : kws = [] ∧ args.any isStar = false ∧ (args.length = 1 ∨ args.length = 2) := by
  unfold iterOk at h
  cases kws with
  | cons _ _ => cases h
  | nil =>
    simp only [Bool.and_eq_true, decide_eq_true_eq] at h
    exact ⟨rfl, by have := h.1; simpa using this, h.2⟩
theorem c_iter (C : CtxOk κ k X T B xk) (hf : ∀ e, PE X e (tE κ B (dE n T xk) e)) (tg e : Expr) : PI X tg e (tI κ B T (dE n T xk) tg e) := by
  by_cases hk : iterKind T e = .other
  · exact c_iterO C hf hk
  · obtain ⟨x, p, args, kws, pos, rfl, h1, h2, h3⟩ := iterKind_inv hk
    have hg : Gl X x := by show X.env.scope.names.lookup x = _; rw [C.nm]; exact h1
    have hm : X.mg x = none := C.glb x _ h2
    by_cases hio : iterOk tg (.Call (.Name x p) args kws pos) = true
    · obtain ⟨rfl, hst, hlen⟩ := iterOk_inv hio
      have st2 : ∀ a b, args = [a, b] → isStar a = false ∧ isStar b = false := fun a b e => by
        subst e
        rw [List.any_cons, List.any_cons, Bool.or_eq_false_iff, Bool.or_eq_false_iff] at hst
        exact ⟨hst.1, hst.2.1⟩
      have st1 : ∀ a, args = [a] → isStar a = false := fun a e => by
        subst e
        rw [List.any_cons, Bool.or_eq_false_iff] at hst
        exact hst.1
      have p1 : ∀ a, args = [a] → PA X [a] (tCons (tE κ B (dE n T xk) a) tNil) ∧ starEach [a] X.env = [(false, eval a X.env)] := fun a e => ⟨pa_cons (hf a) pa_nil (star_cons (st1 a e) [] X.env), star_cons (st1 a e) [] X.env⟩
      have p2 : ∀ a b, args = [a, b] → PA X [a, b] (tCons (tE κ B (dE n T xk) a) (tCons (tE κ B (dE n T xk) b) tNil)) ∧ starEach [a, b] X.env = [(false, eval a X.env), (false, eval b X.env)] ∧ starEach [b] X.env = [(false, eval b X.env)] := fun a b e => by
        have q := st2 a b e
        refine ⟨pa_cons (hf a) (pa_cons (hf b) pa_nil (star_cons q.2 [] X.env)) (star_cons q.1 [b] X.env), ?_, star_cons q.2 [] X.env⟩
        rw [star_cons q.1, star_cons q.2 [] X.env]; rfl
      rcases h3 with ⟨ek, rfl⟩ | ⟨ek, rfl⟩ | ⟨ek, rfl⟩
      · match args, hlen with
        | [a], _ =>
          refine PI.imp (pi_range1 hg hm (p1 a rfl).1 (p1 a rfl).2) fun σ H R ⟨F, ρ, k, en, hd, hq⟩ => ?_
          unfold dIter at hd
          rw [ek] at hd
          refine ⟨F, ρ, _, en, hd.2, fun r ρ1 v F1 H1 h1 p1 o1 => ?_⟩
          cases hl : look ρ1 r with
          | none => rw [hl] at h1; exact h1.elim
          | some d =>
            rw [hl] at h1
            cases d with
            | int j =>
              have rd := o1.rd p1.env hl
              cases rd
              exact ⟨j, rfl, h1.1.1, h1.1.2, hq _ _ _ _ _ h1.2 p1 (walks_range 0 _)⟩
            | _ => exact h1.elim
        | [a, b], _ =>
          refine PI.imp (pi_range2 hg hm (p2 a b rfl).1 (p2 a b rfl).2.1 (p2 a b rfl).2.2) fun σ H R ⟨F, ρ, k, en, hd, hq⟩ => ?_
          unfold dIter at hd
          rw [ek] at hd
          refine ⟨F, ρ, _, en, hd.2, fun ra ρ1 v1 F1 H1 h1 p1 o1 => ⟨F1, ρ1, _, p1.env, h1, fun rb ρ2 v2 F2 H2 h2 p2 o2 => ?_⟩⟩
          obtain ⟨x, y, e1, e2, h2⟩ := two_inv h2
          have r1 := (o1.post p2 e1).rd p2.env e1
          have r2 := o2.rd p2.env e2
          cases x with
          | int i =>
            cases y with
            | int j =>
              cases r1; cases r2
              exact ⟨i, j, rfl, h2.1, hq _ _ _ _ _ h2.2 (p1.trans p2) (walks_range i _)⟩
            | _ => exact h2.elim
          | _ => exact h2.elim
      · by_cases ht : isTup tg = true
        · cases tg with
          | Tuple elts kk tpos =>
            match args, hlen with
            | [a], _ =>
              refine PI.imp (pi_enumT hg hm (p1 a rfl).1 (p1 a rfl).2) fun σ H R ⟨F, ρ, k, en, hd, hq⟩ => ?_
              unfold dIter at hd
              rw [ek] at hd
              refine ⟨F, ρ, _, en, hd.2, fun r ρ1 v F1 H1 h1 p1 o1 => ?_⟩
              obtain ⟨d, ρ1', hz, h1⟩ := frK_inv h1
              obtain ⟨F1', p1', rp⟩ := o1.frz p1 hz
              cases d with
              | lst xs =>
                unfold Rep at rp
                obtain ⟨a, vs, rfl, h, rl⟩ := rp
                exact ⟨a, vs, rfl, .inl ⟨SqL.of (p1'.env.sub _ _ h), hq _ _ _ _ _ h1 p1' (walks_enum h rl)⟩⟩
              | tup xs =>
                unfold Rep at rp
                obtain ⟨a, vs, rfl, h, rl⟩ := rp
                exact ⟨a, vs, rfl, .inr ⟨by rw [C.hK]; exact (same_t p1'.env.sub h).sq, hq _ _ _ _ _ h1 p1' (by rw [C.hK]; exact walks_enumT h rl)⟩⟩
              | _ => exact h1.elim
            | [a, b], _ =>
              refine PI.no fun σ H R ⟨F, ρ, k, en, hd, hq⟩ => ?_
              unfold dIter at hd
              rw [ek] at hd
              exact hd.2.elim
          | _ => cases ht
        · refine PI.no fun σ H R ⟨F, ρ, k, en, hd, hq⟩ => ?_
          unfold dIter at hd
          rw [ek] at hd
          exact ht hd.1.2
      · by_cases ht : isTup tg = true
        · cases tg with
          | Tuple elts kk tpos =>
            match args, hlen with
            | [a], _ =>
              refine PI.no fun σ H R ⟨F, ρ, k, en, hd, hq⟩ => ?_
              unfold dIter at hd
              rw [ek] at hd
              exact hd.2.elim
            | [a, b], _ =>
              refine PI.imp (pi_zipA hg hm (p2 a b rfl).1 (by rw [(p2 a b rfl).2.1, (p2 a b rfl).2.2]) (by rw [(p2 a b rfl).2.2]; rfl)) fun σ H R ⟨F, ρ, k, en, hd, hq⟩ => ?_
              unfold dIter at hd
              rw [ek] at hd
              refine ⟨F, ρ, _, en, hd.2, fun ra ρ1 v1 F1 H1 h1 p1 o1 => ?_⟩
              obtain ⟨dx, ρ1', hz, h1⟩ := frK_inv h1
              obtain ⟨F1', p1', rp⟩ := o1.frz p1 hz
              refine ⟨F1', ρ1', _, p1'.env, h1, fun rb ρ2 v2 F2 H2 h2 p2 o2 => ?_⟩
              obtain ⟨dy, ρ2', hz2, h2⟩ := frK_inv h2
              obtain ⟨F2', p2', rp2⟩ := o2.frz p2 hz2
              have rp := rp.mono p2'.exF
              cases dx with
              | lst xs =>
                cases dy with
                | lst ys =>
                  unfold Rep at rp rp2
                  obtain ⟨a, vs, rfl, h, rl⟩ := rp
                  obtain ⟨b, ws, rfl, h', rl'⟩ := rp2
                  exact ⟨a, b, vs, ws, rfl, .inl ⟨SqL.of (p2'.env.sub _ _ h), SqL.of (p2'.env.sub _ _ h'), hq _ _ _ _ _ h2 (p1'.trans p2') (walks_zip h h' rl rl')⟩⟩
                | _ => exact h2.elim
              | tup xs =>
                cases dy with
                | tup ys =>
                  unfold Rep at rp rp2
                  obtain ⟨a, vs, rfl, h, rl⟩ := rp
                  obtain ⟨b, ws, rfl, h', rl'⟩ := rp2
                  exact ⟨a, b, vs, ws, rfl, .inr ⟨by rw [C.hK]; exact (same_t p2'.env.sub h).sq, by rw [C.hK]; exact (same_t p2'.env.sub h').sq, hq _ _ _ _ _ h2 (p1'.trans p2') (by rw [C.hK]; exact walks_zipT h h' rl rl')⟩⟩
                | _ => exact h2.elim
              | _ => exact h2.elim
          | _ => cases ht
        · refine PI.no fun σ H R ⟨F, ρ, k, en, hd, hq⟩ => ?_
          unfold dIter at hd
          rw [ek] at hd
          exact ht hd.1.2
    · refine PI.no fun σ H R ⟨F, ρ, k, en, hd, hq⟩ => ?_
      unfold dIter at hd
      rcases h3 with ⟨ek, _⟩ | ⟨ek, _⟩ | ⟨ek, _⟩
      · rw [ek] at hd; exact hio hd.1
      · rw [ek] at hd; exact hio hd.1.1
      · rw [ek] at hd; exact hio hd.1.1
/-! ### a comprehension's walk -/
structure WalksG (κ : KB) (ok : Hp → Hp → Prop) (J : It) (ds : List D) : Prop where
  go : ∀ i F H, ok F H → i < ds.length → J.go i H
  stop : ∀ F H, ok F H → J.stop ds.length H
  yld : ∀ i F H x H', ok F H → i < ds.length → J.yld i H x H' → ∃ d F2, ds[i]? = some d ∧ Same F F2 ∧ Same H H' ∧ Same F2 H' ∧ (∀ a, F a = none → F2 a ≠ none → H a = none) ∧ Rep κ F2 d x
theorem Walks.toG {F0 : Hp} {J : It} {ds : List D} (h : Walks κ F0 J ds) : WalksG κ (fun F H => Same F0 F ∧ Same F H) J ds where
  go := fun i F H s hi => h.go i H (s.1.trans s.2) hi
  stop := fun F H s => h.stop H (s.1.trans s.2)
  yld := fun i F H x H' s hi y => h.yld i F H x H' s.1 s.2 hi y
theorem walks_own {K : PySem.W.Frag} {F0 : Hp} {a : Addr} {vs : List V} {ds : List D} (r : RepL κ F0 ds vs) : WalksG κ (fun F H => Same F0 F ∧ Same F H ∧ H a = some (.lst vs)) (Itl K a) ds where
  go := fun i F H s hi => ⟨vs, vs[i]'(by rw [← r.len]; exact hi), SqL.of s.2.2, List.getElem?_eq_getElem _⟩
  stop := fun F H s => ⟨vs, SqL.of s.2.2, by rw [r.len]; exact Nat.le_refl _⟩
  yld := fun i F H x H' s hi y => by
    obtain ⟨rfl, y⟩ := y
    obtain ⟨d, e1, e2⟩ := r.getV (y vs (SqL.of s.2.2))
    exact ⟨d, F, e1, Same.refl F, Same.refl _, s.2.1, no_new, e2.mono s.1⟩
/-- out of sight -/
theorem EnvOk.hide {F H : Hp} {σ : L2.St} {ρ : Env'} (e : EnvOk κ B F H σ ρ) (i : Nat) : EnvOk κ B F H σ (ρ.set i none) := by
  have g : ∀ (j : Nat) (s : S), (ρ.set i none)[j]? = some (some s) → ρ[j]? = some (some s) := fun j s h => by
    rw [List.getElem?_set] at h
    split at h
    · split at h <;> cases h
    · exact h
  exact ⟨e.bas, e.sub, by rw [List.length_set]; exact e.len, fun j d h => e.fr j d (g j _ h), fun j d h => e.ow j d (g j _ h), fun j l p d d' h h' => e.dj j l p d d' (g j _ h) (g l _ h')⟩
theorem Root.hide {σ : L2.St} {ρ : Env'} {i : Nat} {a : Addr} (h : Root σ (ρ.set i none) a) : ∃ j d, j ≠ i ∧ ρ[j]? = some (some (.ow d)) ∧ σ[j]? = some (some (.ref a)) := by
  obtain ⟨j, d, h1, h2⟩ := h
  rw [List.getElem?_set] at h1
  split at h1
  · split at h1 <;> cases h1
  · rename_i hne
    exact ⟨j, d, fun z => hne z.symm, h1, h2⟩
theorem Post.hide {F H : Hp} {σ : L2.St} {ρ : Env'} (e : EnvOk κ B F H σ ρ) (i : Nat) : Post κ B F H σ ρ F H (ρ.set i none) :=
  ⟨Same.refl F, e.hide i, fun _ _ h _ => h, fun a h h' => absurd h h', fun a h => by obtain ⟨j, d, _, h1, h2⟩ := h.hide; exact ⟨j, d, h1, h2⟩, fun _ o h => ⟨o, h⟩⟩
/-- back in sight -/
theorem Post.seen {F H F2 H2 : Hp} {σ : L2.St} {ρ ρ2 : Env'} {i : Nat} {xs : List D} (e : EnvOk κ B F H σ ρ) (hi : ρ[i]? = some (some (.ow (.lst xs)))) (p : Post κ B F H σ (ρ.set i none) F2 H2 ρ2) : Post κ B F H σ ρ F2 H2 (ρ2.set i (some (.ow (.lst xs)))) := by
  obtain ⟨a, ha, hF, hB, vs, hH, rl⟩ := e.ow i _ hi
  have nr : ¬ Root σ (ρ.set i none) a := fun z => by
    obtain ⟨j, d, hj, h1, h2⟩ := z.hide
    exact hj (e.dj j i a d _ h1 hi h2 ha)
  have hF2 : F2 a = none := by
    cases e2 : F2 a with
    | none => rfl
    | some o =>
      rcases p.new a hF (by rw [e2]; simp) with z | z
      · rw [hH] at z; cases z
      · exact absurd z nr
  have hH2 := p.frm a _ hH nr
  have nr2 : ¬ Root σ ρ2 a := fun z => nr (p.rts a z)
  have up : ∀ b, Root σ (ρ.set i none) b → Root σ ρ b := fun b h => by obtain ⟨j, d, _, h1, h2⟩ := h.hide; exact ⟨j, d, h1, h2⟩
  have g : ∀ (j : Nat) (s : S), (ρ2.set i (some (.ow (.lst xs))))[j]? = some (some s) → (j = i ∧ s = .ow (.lst xs)) ∨ ρ2[j]? = some (some s) := fun j s h => by
    rw [List.getElem?_set] at h
    split at h
    · rename_i hj
      split at h
      · exact .inl ⟨hj.symm, by cases h; rfl⟩
      · cases h
    · exact .inr h
  refine ⟨p.exF, ⟨p.env.bas, p.env.sub, by rw [List.length_set]; exact p.env.len, fun j d h => ?_, fun j d h => ?_, fun j l q d d' h h' h1 h2 => ?_⟩, fun b o h r => p.frm b o h fun z => r (up b z), fun b h h' => (p.new b h h').imp id (up b), fun b h => ?_, p.sty⟩
  · rcases g j _ h with ⟨_, z⟩ | z
    · cases z
    · exact p.env.fr j d z
  · rcases g j _ h with ⟨rfl, z⟩ | z
    · cases z
      exact ⟨a, ha, hF2, hB, vs, hH2, rl.mono p.exF⟩
    · exact p.env.ow j d z
  · rcases g j _ h with ⟨rfl, z⟩ | z
    · rcases g l _ h' with ⟨rfl, z'⟩ | z'
      · rfl
      · rw [ha] at h1
        cases h1
        exact absurd ⟨l, d', z', h2⟩ nr2
    · rcases g l _ h' with ⟨rfl, z'⟩ | z'
      · rw [ha] at h2
        cases h2
        exact absurd ⟨j, d, z, h1⟩ nr2
      · exact p.env.dj j l q d d' z z' h1 h2
  · obtain ⟨j, d, h1, h2⟩ := h
    rcases g j _ h1 with ⟨rfl, z⟩ | z
    · exact ⟨_, _, hi, h2⟩
    · exact up b (p.rts b ⟨j, d, z, h2⟩)
def tIC (κ : KB) (B : Hp) (T : Tab) (f : Expr → Env' → KR → Prop) (scope : Scope) (tg e : Expr) : TI := fun σ H R => ∃ (F : Hp) (ρ : Env') (k : List D → Env' → (Env' → Env') → Prop), EnvOk κ B F H σ ρ ∧ dIterC f T scope tg e ρ k ∧
  ∀ ds ρ' u F' H' J ok, k ds ρ' u → Post κ B F H σ ρ F' H' ρ' → WalksG κ ok J ds → (∀ F2 H2, Same F' F2 → Same F2 H2 → (∀ a o, H' a = some o → ¬ Root σ ρ' a → H2 a = some o) → ok F2 H2) →
    (∀ F2 H2 ρ2, Post κ B F' H' σ ρ' F2 H2 ρ2 → Post κ B F H σ ρ F2 H2 (u ρ2)) → (∀ a ρ2, Root σ (u ρ2) a → Root σ ρ2 a ∨ H' a ≠ none) → R J H'
theorem c_iterC (C : CtxOk κ k X T B xk) (hf : ∀ e, PE X e (tE κ B (dE n T xk) e)) (scope : Scope) (tg e : Expr) : PI X tg e (tIC κ B T (dE n T xk) scope tg e) := by
  cases hh : hideOk scope e with
  | false =>
    refine PI.imp (c_iter C hf tg e) fun σ H R ⟨F, ρ, k, en, hd, hq⟩ => ?_
    unfold dIterC at hd
    rw [hh] at hd
    exact ⟨F, ρ, _, en, hd, fun ds ρ' F' H' J hk p w => hq ds ρ' id F' H' J _ hk p w.toG (fun F2 H2 s1 s2 _ => ⟨s1, s2⟩) (fun F2 H2 ρ2 p2 => p.trans p2) fun a ρ2 h => .inl h⟩
  | true =>
    refine PI.imp (pi_any (hf e)) fun σ H R ⟨F, ρ, k, en, hd, hq⟩ => ?_
    unfold dIterC at hd
    rw [hh] at hd
    refine ⟨F, ρ, _, en, hd, fun r ρ1 v F1 H1 h1 p1 o1 => ?_⟩
    cases r with
    | new d => exact h1.elim
    | val d =>
      have h1 : (match itemsOf d with
        | some xs => k xs ρ1 id
        | none => False) := h1
      have rp : Rep κ F1 d v := o1
      cases d with
      | lst xs =>
        unfold Rep at rp
        obtain ⟨a, vs, rfl, h, rl⟩ := rp
        exact .inl ⟨a, vs, rfl, SqL.of (p1.env.sub _ _ h), hq _ _ id _ _ _ _ h1 p1 (walks_list h rl).toG (fun F2 H2 s1 s2 _ => ⟨s1, s2⟩) (fun F2 H2 ρ2 p2 => p1.trans p2) fun a ρ2 h => .inl h⟩
      | tup xs =>
        unfold Rep at rp
        obtain ⟨a, vs, rfl, h, rl⟩ := rp
        exact .inr (.inl ⟨a, vs, rfl, by rw [C.hK]; exact (same_t p1.env.sub h).sq, hq _ _ id _ _ _ _ h1 p1 (by rw [C.hK]; exact (walks_tup h rl).toG) (fun F2 H2 s1 s2 _ => And.intro s1 s2) (fun F2 H2 ρ2 p2 => p1.trans p2) fun a ρ2 h => .inl h⟩)
      | str z => cases rp; exact .inr (.inr ⟨z, rfl, hq _ _ id _ _ _ _ h1 p1 (walks_str z).toG (fun F2 H2 s1 s2 _ => ⟨s1, s2⟩) (fun F2 H2 ρ2 p2 => p1.trans p2) fun a ρ2 h => .inl h⟩)
      | _ => exact h1.elim
    | slot i =>
      have h1 : (match ρ1[i]? with
        | some (some (.ow (.lst xs))) => k xs (ρ1.set i none) fun ρ' => ρ'.set i (some (.ow (.lst xs)))
        | _ => False) := h1
      split at h1
      · rename_i xs hi
        obtain ⟨a, ha, hF, hB, vs, hH, rl⟩ := p1.env.ow i _ hi
        have hv : σ[i]? = some (some v) := o1.2
        rw [ha] at hv
        cases hv
        have nr : ¬ Root σ (ρ1.set i none) a := fun z => by
          obtain ⟨j, d, hj, q1, q2⟩ := z.hide
          exact hj (p1.env.dj j i a d _ q1 hi q2 ha)
        refine .inl ⟨a, vs, rfl, SqL.of hH, hq _ _ _ _ _ _ _ h1 (p1.trans (Post.hide p1.env i)) (walks_own rl) (fun F2 H2 s1 s2 h => ⟨s1, s2, h a _ hH nr⟩) (fun F2 H2 ρ2 p2 => p1.trans (Post.seen p1.env hi p2)) fun b ρ2 h => ?_⟩
        obtain ⟨j, d, q1, q2⟩ := h
        rw [List.getElem?_set] at q1
        split at q1
        · rename_i hj
          subst hj
          rw [ha] at q2
          cases q2
          exact .inr (by rw [hH]; simp)
        · exact .inl ⟨j, d, q1, q2⟩
      · exact h1.elim
end
end DL

set_option Elab.async false
set_option linter.all false
set_option maxRecDepth 100000
set_option maxHeartbeats 1000000
/-! DL11: targets, comprehensions, the whole of expressions. -/
namespace DL
open PySem PySem.Spec PyProof.Rows L2

section
variable {κ : KB} {B F H : Hp} {σ σ' : L2.St} {ρ ρ' : Env'}
/-! ### environments that change -/
theorem EnvOk.setFr (e : EnvOk κ B F H σ ρ) {i : Nat} {d : D} {v : V} (hi : i < σ.length) (r : Rep κ F d v) : EnvOk κ B F H (σ.set i (some v)) (setFr ρ i d) where
  bas := e.bas
  sub := e.sub
  len := by unfold DL.setFr; rw [List.length_set, List.length_set]; exact e.len
  fr := fun j d' hj => by
    rcases set_get hj with ⟨rfl, ez⟩ | ⟨ne, ez⟩
    · cases ez; exact ⟨v, by rw [List.getElem?_set_self hi], r⟩
    · rw [List.getElem?_set_ne (Ne.symm ne)]; exact e.fr j d' ez
  ow := fun j d' hj => by
    rcases set_get hj with ⟨rfl, ez⟩ | ⟨ne, ez⟩
    · cases ez
    · rw [List.getElem?_set_ne (Ne.symm ne)]; exact e.ow j d' ez
  dj := fun j j' q d1 d2 hj hj' h1 h2 => by
    rcases set_get hj with ⟨rfl, ez⟩ | ⟨ne, ez⟩
    · cases ez
    · rcases set_get hj' with ⟨rfl, ez'⟩ | ⟨ne', ez'⟩
      · cases ez'
      · rw [List.getElem?_set_ne (Ne.symm ne)] at h1
        rw [List.getElem?_set_ne (Ne.symm ne')] at h2
        exact e.dj j j' q d1 d2 ez ez' h1 h2
theorem Root.setFr {i : Nat} {d : D} {x : Option V} {a : Addr} (h : Root (σ.set i x) (DL.setFr ρ i d) a) : Root σ ρ a := by
  obtain ⟨j, d', hj, hq⟩ := h
  rcases set_get hj with ⟨rfl, ez⟩ | ⟨ne, ez⟩
  · cases ez
  · rw [List.getElem?_set_ne (Ne.symm ne)] at hq
    exact ⟨j, d', ez, hq⟩
/-- only the slots of js changed -/
def OnlyAt (js : List Nat) (σ σ' : L2.St) : Prop := σ'.length = σ.length ∧ ∀ j : Nat, j ∉ js → σ'[j]? = σ[j]?
theorem OnlyAt.refl (js : List Nat) (σ : L2.St) : OnlyAt js σ σ := ⟨rfl, fun _ _ => rfl⟩
theorem OnlyAt.trans {js js' : List Nat} {σ1 σ2 σ3 : L2.St} (a : OnlyAt js σ1 σ2) (b : OnlyAt js' σ2 σ3) : OnlyAt (js ++ js') σ1 σ3 :=
  ⟨b.1.trans a.1, fun j hj => by rw [List.mem_append, not_or] at hj; exact (b.2 j hj.2).trans (a.2 j hj.1)⟩
theorem wipe_in {σ : L2.St} {i : Nat} : ∀ {vs : List Nat}, i ∈ vs → (wipe σ vs)[i]? = if i < σ.length then some none else none
  | v :: vs, h => by
    unfold wipe
    by_cases e : v = i
    · subst e
      by_cases hl : v < σ.length
      · rw [List.getElem?_set_self (by rw [wipe_length]; exact hl), if_pos hl]
      · rw [List.getElem?_eq_none (by rw [List.length_set, wipe_length]; omega), if_neg hl]
    · rw [List.getElem?_set_ne e]
      rcases List.mem_cons.mp h with z | z
      · exact absurd z.symm e
      · exact wipe_in z
theorem wipe_only {js vs : List Nat} (h : OnlyAt js σ σ') (hs : ∀ j ∈ js, j ∈ vs) : wipe σ' vs = wipe σ vs := by
  apply List.ext_getElem?
  intro i
  by_cases hi : i ∈ vs
  · rw [wipe_in hi, wipe_in hi, h.1]
  · rw [wipe_out hi, wipe_out hi]
    exact h.2 i fun z => hi (hs i z)
theorem wipe_wipe {vs : List Nat} : wipe (wipe σ vs) vs = wipe σ vs := by
  refine wipe_only (js := vs) ⟨wipe_length σ vs, fun j hj => wipe_out hj⟩ fun _ h => h
theorem wipeE_len (ρ : Env') : ∀ vs : List Nat, (wipeE ρ vs).length = ρ.length
  | [] => rfl
  | v :: vs => by unfold wipeE; rw [List.length_set, wipeE_len ρ vs]
theorem wipeE_some {i : Nat} {s : S} : ∀ {vs : List Nat}, (wipeE ρ vs)[i]? = some (some s) → ρ[i]? = some (some s) ∧ i ∉ vs
  | [], h => ⟨h, by simp⟩
  | v :: vs, h => by
    unfold wipeE at h
    rcases set_get h with ⟨_, ez⟩ | ⟨ne, ez⟩
    · cases ez
    · obtain ⟨h1, h2⟩ := wipeE_some ez
      exact ⟨h1, by simp only [List.mem_cons, not_or]; exact ⟨ne, h2⟩⟩
theorem EnvOk.wipe (e : EnvOk κ B F H σ ρ) (vs : List Nat) : EnvOk κ B F H (wipe σ vs) (wipeE ρ vs) where
  bas := e.bas
  sub := e.sub
  len := by rw [wipeE_len, wipe_length]; exact e.len
  fr := fun j d' hj => by obtain ⟨h1, h2⟩ := wipeE_some hj; rw [wipe_out h2]; exact e.fr j d' h1
  ow := fun j d' hj => by obtain ⟨h1, h2⟩ := wipeE_some hj; rw [wipe_out h2]; exact e.ow j d' h1
  dj := fun j j' q d1 d2 hj hj' h1 h2 => by
    obtain ⟨a1, a2⟩ := wipeE_some hj
    obtain ⟨b1, b2⟩ := wipeE_some hj'
    rw [wipe_out a2] at h1
    rw [wipe_out b2] at h2
    exact e.dj j j' q d1 d2 a1 b1 h1 h2
theorem Root.wipe {vs : List Nat} {a : Addr} (h : Root (wipe σ vs) (wipeE ρ vs) a) : Root σ ρ a := by
  obtain ⟨j, d', hj, hq⟩ := h
  obtain ⟨h1, h2⟩ := wipeE_some hj
  rw [wipe_out h2] at hq
  exact ⟨j, d', h1, hq⟩
theorem backE_len (ρ ρ' : Env') : ∀ vs : List Nat, (backE ρ ρ' vs).length = ρ'.length
  | [] => rfl
  | v :: vs => by unfold backE; rw [List.length_set, backE_len ρ ρ' vs]
theorem backE_some {i : Nat} {s : S} : ∀ {vs : List Nat}, (backE ρ ρ' vs)[i]? = some (some s) → (i ∈ vs ∧ ρ[i]? = some (some s) ∧ ∃ d, s = .fr d) ∨ (i ∉ vs ∧ ρ'[i]? = some (some s))
  | [], h => .inr ⟨by simp, h⟩
  | v :: vs, h => by
    unfold backE at h
    rcases set_get h with ⟨e, ez⟩ | ⟨ne, ez⟩
    · subst e
      refine .inl ⟨List.mem_cons_self, ?_⟩
      split at ez
      · cases ez; rename_i d e; exact ⟨e, d, rfl⟩
      · cases ez
    · rcases backE_some ez with ⟨h1, h2⟩ | ⟨h1, h2⟩
      · exact .inl ⟨List.mem_cons_of_mem _ h1, h2⟩
      · exact .inr ⟨by simp only [List.mem_cons, not_or]; exact ⟨ne, h1⟩, h2⟩
/-- behind a block -/
theorem Post.ofBlock {F1 H1 F2 H2 : Hp} {ρ1 ρ2 : Env'} {vs : List Nat} (e1 : EnvOk κ B F1 H1 σ ρ1) (p : Post κ B F1 H1 (L2.wipe σ vs) (wipeE ρ1 vs) F2 H2 ρ2) : Post κ B F1 H1 σ ρ1 F2 H2 (backE ρ1 ρ2 vs) where
  exF := p.exF
  env := by
    have e2 := p.env
    refine ⟨e2.bas, e2.sub, by rw [backE_len, e2.len, wipe_length], fun j d' hj => ?_, fun j d' hj => ?_, fun j j' q d1 d2 hj hj' h1 h2 => ?_⟩
    · rcases backE_some hj with ⟨_, h2, _⟩ | ⟨h1, h2⟩
      · obtain ⟨v, a, b⟩ := e1.fr j d' h2; exact ⟨v, a, b.mono p.exF⟩
      · have := e2.fr j d' h2; rw [wipe_out h1] at this; exact this
    · rcases backE_some hj with ⟨_, _, d, z⟩ | ⟨h1, h2⟩
      · cases z
      · have := e2.ow j d' h2; rw [wipe_out h1] at this; exact this
    · rcases backE_some hj with ⟨_, _, d, z⟩ | ⟨a1, a2⟩
      · cases z
      · rcases backE_some hj' with ⟨_, _, d, z⟩ | ⟨b1, b2⟩
        · cases z
        · exact e2.dj j j' q d1 d2 a2 b2 (by rw [wipe_out a1]; exact h1) (by rw [wipe_out b1]; exact h2)
  frm := fun a o h r => p.frm a o h fun z => r z.wipe
  new := fun a h h' => (p.new a h h').imp id fun z => z.wipe
  rts := fun a ⟨j, d', hj, hq⟩ => by
    rcases backE_some hj with ⟨_, _, d, z⟩ | ⟨a1, a2⟩
    · cases z
    · exact (p.rts a ⟨j, d', a2, by rw [wipe_out a1]; exact hq⟩).wipe
  sty := p.sty
/-- an object that nobody knows changes -/
theorem EnvOk.temp (e : EnvOk κ B F H σ ρ) {q : Addr} {o : HO} (hF : F q = none) (hB : B q = none) (hr : ¬ Root σ ρ q) : EnvOk κ B F (upd H q o) σ ρ where
  bas := fun a u h => by rw [upd_ne (ne_of_none h hB)]; exact e.bas a u h
  sub := fun a u h => by rw [upd_ne (ne_of_none h hF)]; exact e.sub a u h
  len := e.len
  fr := e.fr
  ow := fun i d h => by
    obtain ⟨p, a, b, c, w⟩ := e.ow i d h
    have ne : p ≠ q := fun z => hr ⟨i, d, h, by rw [← z]; exact a⟩
    exact ⟨p, a, b, c, w.mono (Same.refl F) (upd_ne ne)⟩
  dj := e.dj
theorem Post.temp {F0 H0 : Hp} {ρ0 : Env'} (p : Post κ B F0 H0 σ ρ0 F H ρ) {q : Addr} {o : HO} (h0 : H0 q = none) (hB : B q = none) (hF : F q = none) (hr : ¬ Root σ ρ q) : Post κ B F0 H0 σ ρ0 F (upd H q o) ρ where
  exF := p.exF
  env := p.env.temp hF hB hr
  frm := fun a u h r => by rw [upd_ne (ne_of_none h h0)]; exact p.frm a u h r
  new := p.new
  rts := p.rts
  sty := fun a u h => by rw [upd_ne (ne_of_none h h0)]; exact p.sty a u h
end

/-! ### targets -/
section
variable {κ : KB} {k : Nat} {X : Cx} {T : Tab} {B : Hp} {xk : DX → Prop} {n : Nat}
/-- what a target does: slots are set, each a frozen value -/
def gG (κ : KB) (B : Hp) (g : Expr → D → Env' → (Env' → Prop) → Prop) (sl : Expr → List Nat) (tg : Expr) : TG := fun v σ H Q => ∃ (F : Hp) (ρ : Env') (d : D) (k : Env' → Prop), EnvOk κ B F H σ ρ ∧ Rep κ F d v ∧ g tg d ρ k ∧
  ∀ ρ' σ', k ρ' → EnvOk κ B F H σ' ρ' → OnlyAt (sl tg) σ σ' → (∀ a, Root σ' ρ' a → Root σ ρ a) → Q σ' H
abbrev gD (κ : KB) (B : Hp) (T : Tab) (tg : Expr) : TG := gG κ B (dTg T) (tgSlots T.N) tg
theorem PG.no {e : Expr} {t : TG} (i : ∀ v σ H Q, t v σ H Q → False) : PG X e t := ⟨fun _ _ σ H v _ Q _ _ q => (i v σ H Q q).elim⟩
theorem c_tgN (C : CtxOk κ k X T B xk) (tg : Expr) : PG X tg (gG κ B (dTgN T) (tgSlotN T.N) tg) := by
  cases tg with
  | Name x pos =>
    by_cases hk : T.nm.lookup x = some .local ∨ (T.nm.lookup x = some .cell ∧ T.fn x = true)
    · cases hs : slotOf T.N x with
      | none => exact PG.no fun v σ H Q ⟨F, ρ, d, k, en, r, hd, hq⟩ => by have hd := hd.2; rw [hs] at hd; exact hd
      | some i =>
        have hN : X.N.Nodup := by rw [C.hN]; exact C.nd
        have hi : X.N[i]? = some x := by rw [C.hN]; exact slotOf_get hs
        have hx : L2.Loc X.env.scope x := by
          unfold L2.Loc; rw [C.nm]
          rcases hk with h | h
          · exact .inl h
          · exact .inr h.1
        have hf : X.fn x = true ∨ X.env.scope.names.lookup x = some .local := by
          rw [C.nm]
          rcases hk with h | h
          · exact .inr h
          · exact .inl (C.fnc x h.1 h.2)
        refine ⟨fun pins s σ H v u Q I r ⟨F, ρ, d, k, en, rp, hd, hq⟩ => ?_⟩
        have hl : i < σ.length := by rw [I.len]; exact (List.getElem?_eq_some_iff.mp hi).1
        have hd := hd.2
        rw [hs] at hd
        refine (pg_name (i := i) hN hi hx hf).run pins s σ H v u Q I r ?_
        refine hq _ _ hd (en.setFr hl rp) ⟨by rw [List.length_set], fun j hj => ?_⟩ fun a h => h.setFr
        have ne : j ≠ i := fun z => hj (by show j ∈ (slotOf T.N x).toList; rw [hs]; simp [z])
        rw [List.getElem?_set_ne (Ne.symm ne)]
    · exact PG.no fun v σ H Q ⟨F, ρ, d, k, en, r, hd, hq⟩ => hk hd.1
  | _ => exact PG.no fun v σ H Q ⟨F, ρ, d, k, en, r, hd, hq⟩ => hd
def gGs (κ : KB) (B : Hp) (g : Expr → D → Env' → (Env' → Prop) → Prop) (sl : Expr → List Nat) (es : List Expr) : TGs := fun vs σ H Q => ∃ (F : Hp) (ρ : Env') (ds : List D) (k : Env' → Prop), EnvOk κ B F H σ ρ ∧ RepL κ F ds vs ∧ dTgs g es ds ρ k ∧
  ∀ ρ' σ', k ρ' → EnvOk κ B F H σ' ρ' → OnlyAt (es.flatMap sl) σ σ' → (∀ a, Root σ' ρ' a → Root σ ρ a) → Q σ' H
theorem PGs.imp {es : List Expr} {t t' : TGs} (h : PGs X es t) (i : ∀ v σ H Q, t' v σ H Q → t v σ H Q) : PGs X es t' := ⟨fun pins s σ H v u Q I r q => h.run pins s σ H v u Q I r (i v σ H Q q)⟩
theorem PGs.no {es : List Expr} {t : TGs} (i : ∀ v σ H Q, t v σ H Q → False) : PGs X es t := ⟨fun _ _ σ H v _ Q _ _ q => (i v σ H Q q).elim⟩
theorem assignEach_nm {env : Env} : ∀ {es : List Expr}, es.any isStar = false → (assignEach es env).map (·.2) = es.map (fun e => assign e env) ∧ (assignEach es env).length = es.length ∧ (assignEach es env).findIdx? (·.1) = none
  | [], _ => ⟨rfl, rfl, rfl⟩
  | e :: es, h => by
    rw [List.any_cons, Bool.or_eq_false_iff] at h
    obtain ⟨i1, i2, i3⟩ := assignEach_nm (env := env) h.2
    have e0 : assignEach (e :: es) env = (false, assign e env) :: assignEach es env := by cases e <;> first | rfl | cases h.1
    rw [e0]
    refine ⟨by rw [List.map_cons, i1]; rfl, by rw [List.length_cons, i2]; rfl, ?_⟩
    rw [List.findIdx?_cons]
    simp [i3]
section
variable {g : Expr → D → Env' → (Env' → Prop) → Prop} {sl : Expr → List Nat}
/-- the target gives its wish back -/
def TgOk (g : Expr → D → Env' → (Env' → Prop) → Prop) : Prop := ∀ e d ρ k, g e d ρ k → ∃ ρ', k ρ'
theorem dTgs_len (ok : TgOk g) : ∀ {es : List Expr} {ds : List D} {ρ : Env'} {k : Env' → Prop}, dTgs g es ds ρ k → es.length = ds.length
  | [], [], _, _, _ => rfl
  | [], _ :: _, _, _, h => h.elim
  | _ :: _, [], _, _, h => h.elim
  | e :: es, d :: ds, ρ, k, h => by
    obtain ⟨ρ', h⟩ := ok _ _ _ _ h.2
    rw [List.length_cons, List.length_cons, dTgs_len ok h]
theorem dTgs_ok (ok : TgOk g) : ∀ {es : List Expr} {ds : List D} {ρ : Env'} {k : Env' → Prop}, dTgs g es ds ρ k → ∃ ρ', k ρ'
  | [], [], ρ, _, h => ⟨ρ, h⟩
  | [], _ :: _, _, _, h => h.elim
  | _ :: _, [], _, _, h => h.elim
  | e :: es, d :: ds, ρ, k, h => by
    obtain ⟨ρ', h⟩ := ok _ _ _ _ h.2
    exact dTgs_ok ok h
theorem dTgs_all (ok : TgOk g) : ∀ {es : List Expr} {ds : List D} {ρ : Env'} {k : Env' → Prop}, dTgs g es ds ρ k → es.any isStar = false
  | [], [], _, _, _ => rfl
  | [], _ :: _, _, _, h => h.elim
  | _ :: _, [], _, _, h => h.elim
  | e :: es, d :: ds, ρ, k, h => by
    obtain ⟨ρ', h'⟩ := ok _ _ _ _ h.2
    rw [List.any_cons, h.1, dTgs_all ok h']; rfl
theorem c_tgs (hg : ∀ e, PG X e (gG κ B g sl e)) : ∀ (es : List Expr), es.any isStar = false → PGs X es (gGs κ B g sl es)
  | [], _ => by
    refine PGs.imp pgs_nil fun vs σ H Q ⟨F, ρ, ds, k, en, r, hd, hq⟩ => ?_
    cases ds with
    | nil => exact ⟨r.nil_inv, hq ρ σ hd en (OnlyAt.refl _ _) fun _ h => h⟩
    | cons _ _ => exact hd.elim
  | e :: es, hn => by
    rw [List.any_cons, Bool.or_eq_false_iff] at hn
    have hall : (assignEach (e :: es) X.env).map (·.2) = assign e X.env :: (assignEach es X.env).map (·.2) := by
      cases e <;> first | rfl | cases hn.1
    refine PGs.imp (pgs_cons (hg e) (c_tgs hg es hn.2) hall) fun vs σ H Q ⟨F, ρ, ds, k, en, r, hd, hq⟩ => ?_
    cases ds with
    | nil => exact hd.elim
    | cons d ds =>
      obtain ⟨v, ws, rfl, r1, r2⟩ := r.cons_inv
      refine ⟨v, ws, rfl, F, ρ, d, _, en, r1, hd.2, fun ρ1 σ1 h1 e1 o1 t1 => ⟨F, ρ1, ds, k, e1, r2, h1, fun ρ2 σ2 h2 e2 o2 t2 => ?_⟩⟩
      refine hq ρ2 σ2 h2 e2 ?_ fun a h => t1 a (t2 a h)
      rw [List.flatMap_cons]
      exact o1.trans o2
theorem c_tup (C : CtxOk κ k X T B xk) (ok : TgOk g) (hg : ∀ e, PG X e (gG κ B g sl e)) {es : List Expr} {kk : Nat} {pos : Pos} : PG X (.Tuple es kk pos) (gG κ B (fun _ d ρ k => match d with
    | .tup ds => dTgs g es ds ρ k
    | _ => False) (fun _ => es.flatMap sl) (.Tuple es kk pos)) := by
  by_cases hn : es.any isStar = false
  · obtain ⟨i1, i2, i3⟩ := assignEach_nm (env := X.env) hn
    refine PG.imp (pg_tup (n := es.length) C.calm (c_tgs hg es hn) i2 i3) fun v σ H Q ⟨F, ρ, d, k, en, r, hd, hq⟩ => ?_
    cases d with
    | tup ds =>
      unfold Rep at r
      obtain ⟨a, vs, rfl, h, rl⟩ := r
      have hd : dTgs g es ds ρ k := hd
      exact ⟨a, vs, rfl, by rw [C.hK]; exact (same_t en.sub h).sq, by rw [← rl.len, dTgs_len ok hd], F, ρ, ds, k, en, rl, hd, hq⟩
    | _ => exact hd.elim
  · refine PG.no fun v σ H Q ⟨F, ρ, d, k, en, r, hd, hq⟩ => hn ?_
    cases d with
    | tup ds => exact dTgs_all ok (show dTgs g es ds ρ k from hd)
    | _ => exact hd.elim
end
theorem tgN_ok : TgOk (dTgN T) := fun e d ρ k h => by
  cases e with
  | Name x p =>
    obtain ⟨_, h⟩ := h
    cases hs : slotOf T.N x with
    | none => rw [hs] at h; exact h.elim
    | some i => rw [hs] at h; exact ⟨_, h⟩
  | _ => exact h.elim
theorem tg1_ok : TgOk (dTg1 T) := fun e d ρ k h => by
  cases e with
  | Tuple es kk pos =>
    cases d with
    | tup ds => exact dTgs_ok tgN_ok (show dTgs (dTgN T) es ds ρ k from h)
    | _ => exact h.elim
  | Name x p => exact tgN_ok (T := T) (.Name x p) d ρ k h
  | _ => exact h.elim
theorem c_tg1 (C : CtxOk κ k X T B xk) (tg : Expr) : PG X tg (gG κ B (dTg1 T) (tgSlots1 T.N) tg) := by
  cases tg with
  | Tuple es kk pos => exact c_tup C tgN_ok (c_tgN C)
  | _ => exact c_tgN C _
theorem c_tg (C : CtxOk κ k X T B xk) (tg : Expr) : PG X tg (gD κ B T tg) := by
  cases tg with
  | Tuple es kk pos => exact c_tup C tg1_ok (c_tg1 C)
  | _ => exact c_tgN C _

/-! ### blocks -/
theorem relS_names {scope sc sc' : Scope} (h : sc.names = sc'.names) (h2 : sc.kind = sc'.kind) : (relS scope sc).names = (relS scope sc').names := by
  unfold relS; rw [h, h2]
theorem CtxOk.blk (C : CtxOk κ k X T B xk) {scope : Scope} (hk : scope.kind = .function) (s : Shared) (H : Hp) (Ca : Addr) (cl : List (Str × Addr)) (fp : List Addr) :
    CtxOk κ k (X.blk s H scope (compEnvC scope cl Ca X.env) fp) (T.blk scope) B (fun _ => False) where
  hK := C.hK
  hnd := C.hnd
  guards := C.guards
  room := C.room
  glb := fun x gv h => by
    have q := C.glb x gv h
    cases gv <;> exact q
  mth := fun c m sm h => C.mth c m sm h
  cmt := fun c m sm h => C.cmt c m sm h
  fld := C.fld
  isa := C.isa
  fxs := C.fxs
  hN := C.hN
  nd := C.nd
  nm := by
    show (relabel scope X.env).names = _
    have e : relabel scope X.env = relS scope X.env.scope := rfl
    rw [e]
    exact relS_names C.nm C.knd
  knd := by
    show (relabel scope X.env).kind = _
    exact hk
  calm := C.calm
  fnc := fun x _ h => h
  co := C.co
  xs := ⟨fun _ _ _ _ => False, by
    show TakesB T.out _ _
    cases T.out with
    | true => exact fun u s' ⟨_, _, _, _, _, _, _, _, _, _, _, _, _, _, _, _, w⟩ => w.elim
    | false => exact takes0, fun _ _ _ _ _ _ h => h.elim⟩
  pas := PassesOwn.never
  stk := fun z => by cases z
end

/-! ### comprehensions -/
section
variable {κ : KB} {k : Nat} {X : Cx} {T : Tab} {B : Hp} {xk : DX → Prop} {n : Nat}
def tTests (κ : KB) (B : Hp) (t : Expr → Env' → (Bool → Env' → Prop) → Prop) (ifs : List Expr) : TT := fun σ H Q => ∃ (F : Hp) (ρ : Env') (k : Bool → Env' → Prop), EnvOk κ B F H σ ρ ∧ dTests t ifs ρ k ∧ ∀ b ρ' F' H', k b ρ' → Post κ B F H σ ρ F' H' ρ' → Q b H'
theorem PTs.imp {ifs : List Expr} {t t' : TT} (h : PTs X ifs t) (i : ∀ σ H Q, t' σ H Q → t σ H Q) : PTs X ifs t' := ⟨fun pins s σ H Q I q => h.run pins s σ H Q I (i σ H Q q)⟩
theorem c_tests {t : Expr → Env' → (Bool → Env' → Prop) → Prop} (ht : ∀ e, PT X e (tTe κ B t e)) (ifs : List Expr) : PTs X ifs (tTests κ B t ifs) := by
  match ifs with
  | [] => exact PTs.imp pts_nil fun σ H Q ⟨F, ρ, k, en, hd, hq⟩ => hq true ρ F H hd (.refl en)
  | [c] => exact PTs.imp (pts_one (ht c)) fun σ H Q ⟨F, ρ, k, en, hd, hq⟩ => ⟨F, ρ, k, en, hd, hq⟩
  | _ :: _ :: _ => exact ⟨fun _ _ σ H Q _ ⟨F, ρ, k, en, hd, hq⟩ => hd.elim⟩
/-- a turn in other slots, then these forgotten -/
theorem Post.ofTurn {F1 H1 F2 H2 F4 H4 : Hp} {σw σ2 : L2.St} {ρ0 ρ ρ2 ρ4 : Env'} {vs : List Nat} (p : Post κ B F1 H1 σw ρ0 F2 H2 ρ) (t2 : ∀ a, Root σ2 ρ2 a → Root σw ρ a) (q : Post κ B F2 H2 σ2 ρ2 F4 H4 ρ4) (hw : wipe σ2 vs = σw) :
    Post κ B F1 H1 σw ρ0 F4 H4 (wipeE ρ4 vs) where
  exF := p.exF.trans q.exF
  env := by rw [← hw]; exact q.env.wipe vs
  frm := fun a o h r => q.frm a o (p.frm a o h r) fun z => r (p.rts a (t2 a z))
  new := fun x h h' => by
    cases e : F2 x with
    | some o => exact p.new x h (by rw [e]; simp)
    | none =>
      rcases q.new x e h' with z | z
      · cases e2 : H1 x with
        | none => exact .inl rfl
        | some o =>
          by_cases r : Root σw ρ0 x
          · exact .inr r
          · rw [p.frm x o e2 r] at z; cases z
      · exact .inr (p.rts x (t2 x z))
  rts := fun a h => by
    rw [← hw] at h
    exact p.rts a (t2 a (q.rts a h.wipe))
  sty := fun x o h => let ⟨o1, h1⟩ := p.sty x o h; q.sty x o1 h1
/-- the turns of a comprehension -/
theorem lc_turns {F1 H1 : Hp} {σ : L2.St} {ρ1 : Env'} {vs : List Nat} {Td : Tab} {tg : Expr} {ifs : List Expr} {elt : Expr} {f : Expr → Env' → KR → Prop} {t : Expr → Env' → (Bool → Env' → Prop) → Prop} {J : It} {ds : List D} {kk : List D → Env' → Prop} {Q : VK}
    {ok : Hp → Hp → Prop} (e1 : EnvOk κ B F1 H1 σ ρ1) (hJ : WalksG κ ok J ds) (hok : ∀ F2 H2, Same F1 F2 → Same F2 H2 → (∀ a o, H1 a = some o → ¬ Root σ ρ1 a → H2 a = some o) → ok F2 H2) (hTd : ∀ j ∈ tgSlots Td.N tg, j ∈ vs)
    (hd : dCompL (fun d ρ k => dTg Td tg d ρ fun ρ2 => dTests t ifs ρ2 fun b ρ3 => if b = true then f elt ρ3 (frK fun y ρ4 => k (some y) (wipeE ρ4 vs)) else k none (wipeE ρ3 vs)) ds (wipeE ρ1 vs) [] kk)
    (hq : ∀ acc ρ2 q F2 H2 ws, kk acc ρ2 → Post κ B F1 H1 (wipe σ vs) (wipeE ρ1 vs) F2 H2 ρ2 → H1 q = none → F2 q = none → ¬ Root (wipe σ vs) ρ2 q → H2 q = some (.lst ws) → RepL κ F2 acc ws → Q (.ref q) H2) (Dd : Addr) (hD : H1 Dd = none) :
    ∃ W : Nat → Nat → Hp → Prop, (∃ m, W 0 m (upd H1 Dd (.lst []))) ∧ ∀ i m H, W i m H →
      (J.stop i H ∧ Q (.ref Dd) H) ∨ (J.go i H ∧ ∃ Nx : Hp → Prop, (∀ H', Nx H' → ∃ m', m' < m ∧ W (i + 1) m' H') ∧ ∀ x H', J.yld i H x H' → gD κ B Td tg x (wipe σ vs) H' fun σ2 H2 => wipe σ2 vs = wipe σ vs ∧ tTests κ B t ifs σ2 H2 fun b H3 =>
        if b = true then tE κ B f elt σ2 H3 fun y H4 => ∃ acc, H4 Dd = some (.lst acc) ∧ acc.length < sizeLine ∧ Nx (upd H4 Dd (.lst (acc ++ [y]))) else Nx H3) := by
  have hB : B Dd = none := e1.bas.free hD
  have hF1 : F1 Dd = none := e1.sub.free hD
  have e1w := e1.wipe vs
  have hok : ∀ F2 H2 ρ2, Post κ B F1 H1 (wipe σ vs) (wipeE ρ1 vs) F2 H2 ρ2 → ok F2 H2 := fun F2 H2 ρ2 p => hok F2 H2 p.exF p.env.sub fun a o h r => p.frm a o h fun z => r z.wipe
  refine ⟨fun i m H => m = ds.length - i ∧ i ≤ ds.length ∧ ∃ F ρ acc ws, Post κ B F1 H1 (wipe σ vs) (wipeE ρ1 vs) F H ρ ∧ F Dd = none ∧ ¬ Root (wipe σ vs) ρ Dd ∧ H Dd = some (.lst ws) ∧ RepL κ F acc ws ∧
    dCompL (fun d ρ k => dTg Td tg d ρ fun ρ2 => dTests t ifs ρ2 fun b ρ3 => if b = true then f elt ρ3 (frK fun y ρ4 => k (some y) (wipeE ρ4 vs)) else k none (wipeE ρ3 vs)) (ds.drop i) ρ acc kk,
    ⟨ds.length, by simp, Nat.zero_le _, F1, wipeE ρ1 vs, [], [], (Post.refl e1w).temp hD hB hF1 (e1w.noRoot hD), hF1, e1w.noRoot hD, upd_same, .nil, by simpa using hd⟩, ?_⟩
  rintro i m H ⟨rfl, hi, F, ρ, acc, ws, p, hFd, hnr, hHd, rl, hd⟩
  by_cases hlt : i < ds.length
  · refine .inr ⟨hJ.go i F H (hok _ _ _ p) hlt, fun H' => ∃ F ρ acc ws, Post κ B F1 H1 (wipe σ vs) (wipeE ρ1 vs) F H' ρ ∧ F Dd = none ∧ ¬ Root (wipe σ vs) ρ Dd ∧ H' Dd = some (.lst ws) ∧ RepL κ F acc ws ∧
        dCompL (fun d ρ k => dTg Td tg d ρ fun ρ2 => dTests t ifs ρ2 fun b ρ3 => if b = true then f elt ρ3 (frK fun y ρ4 => k (some y) (wipeE ρ4 vs)) else k none (wipeE ρ3 vs)) (ds.drop (i + 1)) ρ acc kk,
      fun H' hN => ⟨ds.length - (i + 1), by omega, rfl, hlt, hN⟩, fun x H' y => ?_⟩
    obtain ⟨d, F2, g1, g2, g3, g4, g5, g6⟩ := hJ.yld i F H x H' (hok _ _ _ p) hlt y
    rw [List.drop_eq_getElem_cons hlt] at hd
    have ed : ds[i] = d := by rw [List.getElem?_eq_getElem hlt] at g1; exact Option.some.inj g1
    rw [ed] at hd
    have py : Post κ B F1 H1 (wipe σ vs) (wipeE ρ1 vs) F2 H' ρ := p.trans (Post.grow p.env g3 g2 g4 g5)
    have hF2 : F2 Dd = none := by
      cases e : F2 Dd with
      | none => rfl
      | some o => have := g5 Dd hFd (by rw [e]; simp); rw [hHd] at this; cases this
    refine ⟨F2, ρ, d, _, py.env, g6, hd, fun ρ2 σ2 h2 e2 o2 t2 => ?_⟩
    have hw : wipe σ2 vs = wipe σ vs := by rw [wipe_only o2 hTd, wipe_wipe]
    have nr2 : ¬ Root σ2 ρ2 Dd := fun z => hnr (t2 Dd z)
    refine ⟨hw, F2, ρ2, _, e2, h2, fun b ρ3 F3 H3 h3 p3 => ?_⟩
    have d3 : H3 Dd = some (.lst ws) := p3.frm Dd _ (g3 _ _ hHd) nr2
    have f3 : F3 Dd = none := by
      cases e : F3 Dd with
      | none => rfl
      | some o =>
        rcases p3.new Dd hF2 (by rw [e]; simp) with z | z
        · rw [g3 _ _ hHd] at z; cases z
        · exact absurd z nr2
    have nr3 : ¬ Root σ2 ρ3 Dd := fun z => nr2 (p3.rts Dd z)
    cases b with
    | true =>
      refine ⟨F3, ρ3, _, p3.env, h3, fun r ρ4 yv F4 H4 h4 p4 o4 => ?_⟩
      obtain ⟨dy, ρ4', hz, h4⟩ := frK_inv h4
      obtain ⟨F4', p4', ry⟩ := o4.frz p4 hz
      have d4 : H4 Dd = some (.lst ws) := p4'.frm Dd _ d3 nr3
      have f4 : F4' Dd = none := by
        cases e : F4' Dd with
        | none => rfl
        | some o =>
          rcases p4'.new Dd f3 (by rw [e]; simp) with z | z
          · rw [d3] at z; cases z
          · exact absurd z nr3
      have pq := Post.ofTurn (vs := vs) py t2 (p3.trans p4') hw
      have nr4 : ¬ Root (wipe σ vs) (wipeE ρ4' vs) Dd := fun z => by
        rw [← hw] at z
        exact nr3 (p4'.rts Dd z.wipe)
      exact ⟨ws, d4, by rw [← rl.len]; exact h4.1, F4', wipeE ρ4' vs, acc ++ [dy], ws ++ [yv], pq.temp hD hB f4 nr4, f4, nr4, upd_same, ((rl.mono g2).mono (p3.exF.trans p4'.exF)).app (.cons ry .nil), h4.2⟩
    | false =>
      have pq := Post.ofTurn (vs := vs) py t2 p3 hw
      have nr4 : ¬ Root (wipe σ vs) (wipeE ρ3 vs) Dd := fun z => by
        rw [← hw] at z
        exact nr3 z.wipe
      exact ⟨F3, wipeE ρ3 vs, acc, ws, pq, f3, nr4, d3, (rl.mono g2).mono p3.exF, h3⟩
  · have e : i = ds.length := by omega
    subst e
    rw [List.drop_length] at hd
    exact .inl ⟨hJ.stop F H (hok _ _ _ p), hq acc ρ Dd F H ws hd p hD hFd hnr hHd rl⟩
theorem lc_blk (C : CtxOk κ k X T B xk) {scope : Scope} (hc : blkC T.N ⟨.function, T.nm, false, false, []⟩ scope (ownOf T.N scope) = true) : BlkOk X.N X.env.scope scope (ownOf T.N scope) := by
  have q := blkOk_by hc
  refine ⟨q.kind, q.uniq, ?_, ?_, ?_⟩
  · rw [C.hN]; exact q.ix
  · rw [C.nm]; exact q.free
  · rw [C.hN]; exact q.own
theorem lc_imp {elt tg it : Expr} {ifs : List Expr} {scope : Scope} {pos : Pos} (hc : (tgSlots T.N tg).all (fun i => ((ownOf T.N scope).map (·.2)).contains i) = true) {σ : L2.St} {H : Hp} {Q : VK}
    (h : tE κ B (dE (n + 1) T xk) (.ListComp elt [⟨tg, it, ifs, 0⟩] scope pos) σ H Q) :
    tLc (tIC κ B T (dE n T xk) scope tg it) (gD κ B (T.blk scope) tg) (tTests κ B (dT n (T.blk scope) fun _ => False) ifs) (tE κ B (dE n (T.blk scope) fun _ => False) elt) ((ownOf T.N scope).map (·.2)) σ H Q := by
  obtain ⟨F, ρ, k, en, hd, hq⟩ := h
  have hTd : ∀ j ∈ tgSlots (T.blk scope).N tg, j ∈ (ownOf T.N scope).map (·.2) := fun j hj => by
    have := List.all_eq_true.mp hc j hj
    simpa using this
  refine ⟨F, ρ, _, en, hd.2, fun ds ρ1 u F1 H1 J ok h1 p1 hJ hok hu hr' Dd hD => ?_⟩
  refine lc_turns p1.env hJ hok hTd h1 (fun acc ρ2 q F2 H2 ws hk p2 h0 hF hr hH rl => ?_) Dd hD
  have pb := Post.ofBlock p1.env p2
  refine hq _ _ _ F2 H2 hk (hu _ _ _ pb) ⟨q, rfl, hF, fun z => hr ?_, ⟨ws, hH, rl⟩, p1.back h0, p1.env.bas.free h0⟩
  rcases hr' q _ z with z | z
  · obtain ⟨j, d', hj, hq'⟩ := z
    rcases backE_some hj with ⟨_, _, d, z⟩ | ⟨a1, a2⟩
    · cases z
    · exact ⟨j, d', a2, by rw [wipe_out a1]; exact hq'⟩
  · exact absurd h0 z
theorem fs_noSet {it : Expr} (hs : noSet it = true) (env : Env) : ∀ x, foldedSetIterable it env x = pure x := fun x => by cases it <;> first | rfl | cases hs
theorem dIter_noSet {tg it : Expr} {ρ : Env'} {k : List D → Env' → Prop} (hd : dIter (dE n T xk) T tg it ρ k) : noSet it = true := by
  unfold dIter at hd
  cases it with
  | Set a b c => exact dE_noSet (show dE n T xk (.Set a b c) ρ _ from hd)
  | _ => rfl
theorem dIterC_noSet {scope : Scope} {tg it : Expr} {ρ : Env'} {k : List D → Env' → (Env' → Env') → Prop} (hd : dIterC (dE n T xk) T scope tg it ρ k) : noSet it = true := by
  unfold dIterC at hd
  cases hh : hideOk scope it with
  | false => rw [hh] at hd; exact dIter_noSet hd
  | true => cases it <;> first | rfl | cases hh
/-- the block's checks, from the table's -/
theorem c_lc (C : CtxOk κ k X T B xk) (hf : ∀ e, PE X e (tE κ B (dE n T xk) e))
    (hb : ∀ {X : Cx} {T : Tab} {xk : DX → Prop}, CtxOk κ k X T B xk → (∀ e, PE X e (tE κ B (dE n T xk) e)) ∧ ∀ e, PT X e (tTe κ B (dT n T xk) e)) {elt : Expr} {gens : List Comprehension} {scope : Scope} {pos : Pos} :
    PE X (.ListComp elt gens scope pos) (tE κ B (dE (n + 1) T xk) (.ListComp elt gens scope pos)) := by
  match gens with
  | [⟨tg, it, ifs, a⟩] =>
    by_cases ha : a = 0
    · subst ha
      by_cases hc : blkC T.N ⟨.function, T.nm, false, false, []⟩ scope (ownOf T.N scope) = true ∧ (tgSlots T.N tg).all (fun i => ((ownOf T.N scope).map (·.2)).contains i) = true
      · have ok := lc_blk C hc.1
        have hN : X.N.Nodup := by rw [C.hN]; exact C.nd
        by_cases hs : noSet it = true
        · have Cb := fun (s : Shared) (H : Hp) (Ca : Addr) (cl : List (Str × Addr)) (fp : List Addr) => C.blk ok.kind s H Ca cl fp
          exact PE.imp (pe_lc (own := ownOf T.N scope) C.calm hN (c_iterC C hf scope tg it) ok (fun s H Ca cl fp => c_tg (Cb s H Ca cl fp) tg) (fun s H Ca cl fp => c_tests (hb (Cb s H Ca cl fp)).2 ifs) (fun s H Ca cl fp => (hb (Cb s H Ca cl fp)).1 elt) (fs_noSet hs X.env)) fun σ H Q h => lc_imp hc.2 h
        · exact PE.no fun σ H Q ⟨F, ρ, k, en, hd, hq⟩ => hs (dIterC_noSet hd.2)
      · exact PE.no fun σ H Q ⟨F, ρ, k, en, hd, hq⟩ => hc hd.1
    · exact PE.no fun σ H Q ⟨F, ρ, k, en, hd, hq⟩ => by
        have hd : (match [(⟨tg, it, ifs, a⟩ : Comprehension)] with
          | [⟨tg, it, ifs, 0⟩] => _
          | _ => False) := hd
        split at hd
        · rename_i e; cases e; exact ha rfl
        · exact hd
  | [] => exact PE.no fun σ H Q ⟨F, ρ, k, en, hd, hq⟩ => hd
  | g1 :: g2 :: gs =>
    exact PE.no fun σ H Q ⟨F, ρ, k, en, hd, hq⟩ => by
        have hd : (match (g1 :: g2 :: gs : List Comprehension) with
          | [⟨tg, it, ifs, 0⟩] => _
          | _ => False) := hd
        split at hd
        · rename_i e; cases e
        · exact hd
end
end DL

set_option Elab.async false
set_option linter.all false
set_option maxRecDepth 100000
set_option maxHeartbeats 1000000
/-! DLd: dict displays. -/
namespace DL
open PySem PySem.Spec PyProof.Rows L2
section
variable {κ : KB} {k : Nat} {X : Cx} {T : Tab} {B : Hp} {xk : DX → Prop} {n : Nat}
theorem merged_app : ∀ (more acc : List (Option Key × Value)), ((acc ++ more).map (·.1)).Nodup → merged acc more = acc ++ more
  | [], acc, _ => by simp [merged]
  | kv :: more, acc, h => by
    have e : stored acc kv.1 kv.2 = acc ++ [kv] := by
      unfold stored
      rw [if_neg]
      intro z
      rw [List.any_eq_true] at z
      obtain ⟨q, hq, hz⟩ := z
      have hz : q.1 = kv.1 := by simpa using hz
      rw [List.map_append, List.nodup_append] at h
      exact h.2.2 q.1 (List.mem_map.mpr ⟨q, hq, rfl⟩) kv.1 (by simp) hz
    show merged (stored acc kv.1 kv.2) more = _
    rw [e, merged_app more (acc ++ [kv]) (by simpa using h)]
    simp
theorem carriesN {P : Program} {w : World} : ∀ {xs : List Str} {vs : List V} {ws : List (Value × Value)}, xs.length = vs.length → VV (List.zipWith (fun x v => (V.str x, v)) xs vs) ws → ∃ us, Vals vs us ∧ Carries (noneKind P w) ws ((xs.map strKey).zip us)
  | [], [], _, _, r => by
    cases r
    exact ⟨[], .nil, True.intro⟩
  | x :: xs, v :: vs, _, h, r => by
    rw [List.zipWith_cons_cons] at r
    cases r with
    | @cons a b as bs h1 t =>
      obtain ⟨us, q1, q2⟩ := carriesN (P := P) (w := w) (by simpa using h) t
      obtain ⟨b1, b2⟩ := b
      exact ⟨b2 :: us, .cons h1.2 q1, kV_is (P := P) (w := w) (k := .inr x) h1.1, rfl, q2⟩
  | [], _ :: _, _, h, _ => by simp at h
  | _ :: _, [], _, h, _ => by simp at h
def tDispN (P : Program) (w : World) (trs : List (TE × TE)) : TE := fun σ H Q => ∀ p, H p = none → tPairs trs σ (upd H p (.ext (ndP P w p [] []))) fun ps H2 => H2 p = some (.ext (ndP P w p [] [])) ∧
  ∃ (xs : List Str) (vs : List V), ps = List.zipWith (fun x v => (V.str x, v)) xs vs ∧ xs.length = vs.length ∧ xs.Nodup ∧ xs.length ≤ 15 ∧ Q (.ref p) (upd H2 p (.ext (ndP P w p (xs.map strKey) vs)))
theorem ndP_stay {P : Program} {w : World} {p : Addr} {ks : List (Option Key)} {vs : List V} (h1 h2 : Heap) (x : ndP P w p ks vs h1) (e : ∀ o, h1.get? p = some o → h2.get? p = some o) : ndP P w p ks vs h2 := by
  obtain ⟨a1, a2, a3, us, a4, a5⟩ := x
  exact ⟨a1, a2, a3, us, a4, dict_keep a5 e⟩
theorem nodup_keys {xs : List Str} (h : xs.Nodup) : (xs.map strKey).Nodup := by
  refine List.Pairwise.map _ (fun a b hab => ?_) h
  intro z
  exact hab (by unfold strKey at z; simpa using z)
theorem pe_dispN {pos : Pos} {keys : List (Option Expr)} {values : List Expr} {trs : List (TE × TE)} (h : PPs X pos keys values trs) (hall : keys.all (·.isSome) = true) (hl : keys.length = values.length) (h0 : keys ≠ []) (h15 : keys.length ≤ 15) :
    PE X (.Dict keys values pos) (tDispN X.prog X.w trs) := by
  refine ⟨fun pins s σ H Q I q => ?_⟩
  have hn := I.hok.fresh (Nat.le_refl s.heap.objs.size)
  have I1 := I.laid (a := s.heap.objs.size) (o := .ext (ndP X.prog X.w s.heap.objs.size [] [])) (h' := s.heap.push { cls := .type "dict", data := .dict #[] }) (t' := s.toks) (fun _ _ q => Heap.get?_push_of_some _ q) (Nat.le_refl _)
    ⟨⟨Nat.zero_le _, beq_eq_false_iff_ne.mpr (Ne.symm (Nat.ne_of_lt I.big)), rfl, [], .nil, Heap.DictOf.new s.heap⟩, ⟨_, Heap.get?_push_size _ rfl⟩, ndP_stay⟩
  refine wpAny_Dict_walk (knd := noneKind X.prog X.w) hall hl h0 h15 (thn (h.run pins _ σ _ _ I1 (q _ hn)) fun ws s2 ⟨ps, H2, I2, rel, e, xs, vs, ep, hlen, nd, l15, q2⟩ => ?_)
  subst ep
  obtain ⟨us, rus, c⟩ := carriesN (P := X.prog) (w := X.w) hlen rel
  obtain ⟨⟨z1, z2, z3, us0, rus0, dd⟩, _, _⟩ := I2.hok _ _ e
  have hlu : (xs.map strKey).length = us.length := by rw [List.length_map, hlen, rus.length]
  have em : merged [] ((xs.map strKey).zip us) = (xs.map strKey).zip us := by
    rw [merged_app _ [] (by rw [List.nil_append, List.map_fst_zip (by omega)]; exact nodup_keys nd)]
    rfl
  refine ⟨_, c, dd, fun h' dd' hs => ⟨.ref s.heap.objs.size, _, ?_, rfl, q2⟩⟩
  rw [em] at dd'
  have he : ∃ q, h'.get? s.heap.objs.size = some q := let ⟨q, _, _, hq, _⟩ := dd'; ⟨q, hq⟩
  have hsz := sizeLine_eq
  exact d_write I2 (by rw [e]; exact True.intro) hs he ⟨⟨by rw [List.length_map]; omega, z2, by rw [List.length_map]; exact hlen, us, rus, dd'⟩, he, ndP_stay⟩
/-- the pairs of a display -/
theorem disp_trs (hf : ∀ e, PE X e (tE κ B (dE n T xk) e)) {pos : Pos} : ∀ {keys : List (Option Expr)} {xs : List Str} {values : List Expr}, dispKeys keys = some xs → xs.length = values.length →
    ∃ trs, PPs X pos keys values trs ∧ keys.all (·.isSome) = true ∧ keys.length = xs.length ∧
      ∀ {F H : Hp} {σ : L2.St} {ρ : Env'} {p : Addr} {o : HO} {kk : List D → Env' → Prop} {Q : List (V × V) → Hp → Prop}, EnvOk κ B F H σ ρ → F p = none → ¬ Root σ ρ p → H p = some o → dVs (dE n T xk) values ρ kk →
        (∀ ds ρ' F' H' vs, kk ds ρ' → Post κ B F H σ ρ F' H' ρ' → F' p = none → ¬ Root σ ρ' p → H' p = some o → RepL κ F' ds vs → xs.length = vs.length → Q (List.zipWith (fun x v => (V.str x, v)) xs vs) H') → tPairs trs σ H Q
  | [], xs, values, e, hl => by
    cases e
    cases values with
    | cons _ _ => simp at hl
    | nil => exact ⟨[], pps_nil, rfl, rfl, fun en h1 h2 h3 hd hq => hq [] _ _ _ [] hd (.refl en) h1 h2 h3 .nil rfl⟩
  | key :: keys, xs, values, e, hl => by
    cases key with
    | none => cases e
    | some ke =>
      cases ke with
      | Constant c a1 a2 =>
        cases c with
        | str x =>
          have e' : (dispKeys keys).map (x :: ·) = some xs := e
          obtain ⟨xs', e1, rfl⟩ := Option.map_eq_some_iff.mp e'
          cases values with
          | nil => simp at hl
          | cons v values =>
            obtain ⟨trs, q1, q2, q3, q4⟩ := disp_trs hf (pos := pos) (values := values) e1 (by simpa using hl)
            refine ⟨_, pps_cons pe_str (hf v) q1, by simpa using q2, by simp [q3], fun {F H σ ρ p o kk Q} en h1 h2 h3 hd hq => ?_⟩
            refine ⟨F, ρ, _, en, hd, fun r ρ1 yv F1 H1 hk1 p1 o1 => ?_⟩
            obtain ⟨dy, ρ1', hz, hk1⟩ := frK_inv hk1
            obtain ⟨F1', p1', ry⟩ := o1.frz p1 hz
            have g3 : H1 p = some o := p1'.frm p _ h3 h2
            have g1 : F1' p = none := by
              cases e : F1' p with
              | none => rfl
              | some o' =>
                rcases p1'.new p h1 (by rw [e]; simp) with z | z
                · rw [h3] at z; cases z
                · exact absurd z h2
            have g2 : ¬ Root σ ρ1' p := fun z => h2 (p1'.rts p z)
            refine q4 p1'.env g1 g2 g3 hk1 fun ds ρ' F' H' vs hk pp' w1 w2 w3 rl wl => ?_
            exact hq (dy :: ds) ρ' F' H' (yv :: vs) hk (p1'.trans pp') w1 w2 w3 (.cons (ry.mono pp'.exF) rl) (by simp [wl])
        | _ => cases e
      | _ => cases e
theorem c_disp (C : CtxOk κ k X T B xk) (hf : ∀ e, PE X e (tE κ B (dE n T xk) e)) {m : Nat} {ks : List (Option Expr)} {vs : List Expr} {pos : Pos}
    (hE : ∀ ρ kr, dE m T xk (.Dict ks vs pos) ρ kr → (match dispKeys ks with
      | some xs => (xs.Nodup ∧ xs.length = vs.length ∧ xs.length ≤ 15 ∧ xs ≠ []) ∧ dVs (dE n T xk) vs ρ fun ds ρ1 => kr (.new (.dic (xs.map strKey) ds)) ρ1
      | none => False)) : PE X (.Dict ks vs pos) (tE κ B (dE m T xk) (.Dict ks vs pos)) := by
  cases hk : dispKeys ks with
  | none =>
    refine PE.no fun σ H Q ⟨F, ρ, k, en, hd, hq⟩ => ?_
    have := hE _ _ hd
    rw [hk] at this
    exact this
  | some xs =>
    by_cases hc : xs.Nodup ∧ xs.length = vs.length ∧ xs.length ≤ 15 ∧ xs ≠ []
    · obtain ⟨trs, q1, q2, q3, q4⟩ := disp_trs hf (pos := pos) hk hc.2.1
      have h0 : ks ≠ [] := fun z => hc.2.2.2 (by rw [z] at q3; exact List.eq_nil_of_length_eq_zero q3.symm)
      refine PE.imp (pe_dispN q1 q2 (by rw [q3]; exact hc.2.1) h0 (by rw [q3]; exact hc.2.2.1)) fun σ H Q ⟨F, ρ, k, en, hd, hq⟩ p hp => ?_
      have hd := hE _ _ hd
      rw [hk] at hd
      have hF := en.sub.free hp
      have hB := en.bas.free hp
      have hr := en.noRoot hp
      have p0 : Post κ B F H σ ρ F (upd H p (.ext (ndP X.prog X.w p [] []))) ρ := (Post.refl en).temp hp hB hF hr
      refine q4 p0.env hF hr upd_same hd.2 fun ds ρ' F' H' ws hk' pp w1 w2 w3 rl wl => ⟨w3, xs, ws, rfl, wl, hc.1, hc.2.2.1, ?_⟩
      have p1 := (p0.trans pp).temp (q := p) (o := .ext (ndP X.prog X.w p (xs.map strKey) ws)) hp hB w1 w2
      exact hq _ ρ' _ F' _ hk' p1 ⟨p, rfl, w1, w2, ⟨ws, by rw [upd_same, C.hnd], by rw [List.length_map, wl, rl.len], rl⟩, hp, hB⟩
    · refine PE.no fun σ H Q ⟨F, ρ, k, en, hd, hq⟩ => ?_
      have := hE _ _ hd
      rw [hk] at this
      exact hc this.1
end
end DL

set_option Elab.async false
set_option linter.all false
set_option maxRecDepth 100000
set_option maxHeartbeats 1000000
/-! DLc: dict comprehensions. -/
namespace DL
open PySem PySem.Spec PyProof.Rows L2
section
variable {κ : KB} {k : Nat} {X : Cx} {T : Tab} {B : Hp} {xk : DX → Prop} {n : Nat}
def ksOf (kvs : List (Key × V)) : List (Option Key) := kvs.map fun p => some p.1
def vsOf (kvs : List (Key × V)) : List V := kvs.map (·.2)
theorem pairs_none {P : Program} {w : World} : ∀ {es : List DictEntry} {vs : List (Key × Value)}, Pairs (mixKind P w) es vs → Pairs (noneKind P w) es (vs.map fun p => (some p.1, p.2))
  | _, _, h => by
    induction h with
    | nil => exact .nil
    | cons h1 h2 h3 ih => exact .cons h1 h2 ih
theorem none_dict {P : Program} {w : World} {h : Heap} {a : Addr} {vs : List (Key × Value)} (d : h.DictOf (mixKind P w) a vs) : h.DictOf (noneKind P w) a (vs.map fun p => (some p.1, p.2)) := by
  obtain ⟨o, es, ep, ho, hx, hdt, hk, hp, hn⟩ := d
  refine ⟨o, es, ep, ho, hx, hdt, fun e he => ?_, pairs_none hp, ?_⟩
  · obtain ⟨k, h1, h2⟩ := hk e he
    exact ⟨some k, h1, h2⟩
  · rw [List.map_map]
    have e : ((fun x : Option Key × Value => x.1) ∘ fun p : Key × Value => (some p.1, p.2)) = (fun k => some k) ∘ (fun p : Key × Value => p.1) := rfl
    rw [e, ← List.map_map]
    exact List.Pairwise.map _ (fun a b hab z => hab (Option.some.inj z)) hn
theorem kv_split : ∀ {kvs : List (Key × V)} {vs : List (Key × Value)}, KV kvs vs → ∃ us, Vals (vsOf kvs) us ∧ (vs.map fun p => (some p.1, p.2)) = (ksOf kvs).zip us
  | _, _, h => by
    unfold KV at h
    induction h with
    | nil => exact ⟨[], .nil, rfl⟩
    | @cons a b l1 l2 h1 h2 ih =>
      obtain ⟨us, q1, q2⟩ := ih
      refine ⟨b.2 :: us, .cons h1.2 q1, ?_⟩
      rw [List.map_cons, q2, ← h1.1]
      rfl
theorem nd_of_dk {pins : List (Addr × Obj)} {s : Shared} {σ : L2.St} {H : Hp} {a : Addr} {kvs : List (Key × V)} (I : Inv X pins σ H s) (e : H a = some (.dK kvs)) : Inv X pins σ (upd H a (.ext (ndP X.prog X.w a (ksOf kvs) (vsOf kvs)))) s := by
  obtain ⟨z1, z2, vs, kv, dd⟩ := dk_of I.hok e
  obtain ⟨us, q1, q2⟩ := kv_split kv
  have d2 := none_dict dd
  rw [q2] at d2
  have he : ∃ q, s.heap.get? a = some q := let ⟨q, _, _, hq, _⟩ := dd; ⟨q, hq⟩
  exact d_write (t' := s.toks) I (by rw [e]; exact True.intro) (Heap.SameBut.refl a s.heap) he ⟨⟨by unfold ksOf; rw [List.length_map]; exact z1, z2, by unfold ksOf vsOf; simp, us, q1, d2⟩, he, ndP_stay⟩
def tDcN (P : Program) (w : World) (t : TE) : TE := fun σ H Q => t σ H fun v H' => ∃ q kvs, v = .ref q ∧ H' q = some (.dK kvs) ∧ Q v (upd H' q (.ext (ndP P w q (ksOf kvs) (vsOf kvs))))
theorem pe_dcN {e : Expr} {t : TE} (h : PE X e t) : PE X e (tDcN X.prog X.w t) := by
  refine ⟨fun pins s σ H Q I q => thn (h.run pins s σ H _ I q) fun u s2 ⟨v, H2, I2, rel, a, kvs, ev, e2, q2⟩ => ?_⟩
  exact ⟨v, _, nd_of_dk I2 e2, rel, q2⟩
/-! putK and putG -/
theorem putG_none {α : Type} (key : Option Key) (a : α) : ∀ (ks : List (Option Key)) (xs : List α), ks.length = xs.length → key ∉ ks → putG key a ks xs = (ks ++ [key], xs ++ [a])
  | [], [], _, _ => rfl
  | k :: ks, x :: xs, h, hn => by
    have h1 : ¬ k = key := fun z => hn (by rw [z]; exact List.mem_cons_self ..)
    have h2 := putG_none key a ks xs (by simpa using h) (fun z => hn (List.mem_cons_of_mem _ z))
    unfold putG
    rw [if_neg h1, h2]
    rfl
  | [], _ :: _, h, _ => by simp at h
  | _ :: _, [], h, _ => by simp at h
theorem map_other {α : Type} (key : Key) (a : α) : ∀ (kvs : List (Key × α)), key ∉ kvs.map (·.1) → (kvs.map fun kv => if kv.1 = key then (kv.1, a) else kv) = kvs
  | [], _ => rfl
  | kv :: kvs, h => by
    simp only [List.map_cons, List.mem_cons, not_or] at h ⊢
    rw [if_neg (fun z => h.1 z.symm), map_other key a kvs h.2]
theorem putG_some {α : Type} (key : Key) (a : α) : ∀ (kvs : List (Key × α)), (kvs.map (·.1)).Nodup → key ∈ kvs.map (·.1) →
    putG (some key) a (kvs.map fun p => some p.1) (kvs.map (·.2)) = ((kvs.map fun kv => if kv.1 = key then (kv.1, a) else kv).map (fun p => some p.1), (kvs.map fun kv => if kv.1 = key then (kv.1, a) else kv).map (·.2))
  | [], _, h => by simp at h
  | kv :: kvs, nd, h => by
    simp only [List.map_cons, List.nodup_cons] at nd
    simp only [List.map_cons]
    unfold putG
    by_cases e : kv.1 = key
    · rw [if_pos (by rw [e]), if_pos e]
      have hid := map_other key a kvs (by rw [← e]; exact nd.1)
      rw [hid]
    · rw [if_neg (fun z => e (Option.some.inj z)), if_neg e]
      have hm : key ∈ kvs.map (·.1) := by
        simp only [List.map_cons, List.mem_cons] at h
        rcases h with h | h
        · exact absurd h.symm e
        · exact h
      rw [putG_some key a kvs nd.2 hm]
theorem ksOf_mem {kvs : List (Key × V)} {key : Key} : some key ∈ ksOf kvs ↔ key ∈ kvs.map (·.1) := by
  unfold ksOf
  simp
theorem putK_map (key : Key) (y : V) (kvs : List (Key × V)) (nd : (kvs.map (·.1)).Nodup) : (ksOf (putK kvs key y), vsOf (putK kvs key y)) = putG (some key) y (ksOf kvs) (vsOf kvs) := by
  unfold putK
  by_cases h : key ∈ kvs.map (·.1)
  · rw [if_pos (by
      rw [List.any_eq_true]
      obtain ⟨q, hq, e⟩ := List.mem_map.mp h
      exact ⟨q, hq, by simpa using e⟩)]
    exact (putG_some key y kvs nd h).symm
  · rw [if_neg (by
      intro z
      rw [List.any_eq_true] at z
      obtain ⟨q, hq, e⟩ := z
      exact h (List.mem_map.mpr ⟨q, hq, by simpa using e⟩))]
    rw [putG_none _ _ _ _ (by unfold ksOf vsOf; simp) (fun z => h (ksOf_mem.mp z))]
    unfold ksOf vsOf
    simp
theorem putK_nd (key : Key) (y : V) (kvs : List (Key × V)) (nd : (kvs.map (·.1)).Nodup) : ((putK kvs key y).map (·.1)).Nodup := by
  unfold putK
  split
  · have e : ((kvs.map fun kv => if kv.1 = key then (kv.1, y) else kv).map (·.1)) = kvs.map (·.1) := by
      rw [List.map_map]
      refine List.map_congr_left fun q _ => ?_
      show (if q.1 = key then (q.1, y) else q).1 = q.1
      split <;> rfl
    rw [e]; exact nd
  · rename_i h
    rw [List.map_append, List.nodup_append]
    refine ⟨nd, by simp, fun a ha b hb e => ?_⟩
    simp at hb
    subst hb e
    apply h
    rw [List.any_eq_true]
    obtain ⟨q, hq, e⟩ := List.mem_map.mp ha
    exact ⟨q, hq, by simpa using e⟩
/-- putG respects what the values stand for -/
theorem putG_rep2 {F : Hp} {key : Option Key} {d : D} {v : V} (hd : Rep κ F d v) : ∀ {ks : List (Option Key)} {xs : List D} {vs : List V}, ks.length = xs.length → RepL κ F xs vs → (putG key d ks xs).1 = (putG key v ks vs).1 ∧ RepL κ F (putG key d ks xs).2 (putG key v ks vs).2
  | [], [], vs, _, r => by
    rw [r.nil_inv]
    exact ⟨rfl, .cons hd .nil⟩
  | k :: ks, x :: xs, vs, h, r => by
    obtain ⟨v', r', rfl, h2, h3⟩ := r.cons_inv
    obtain ⟨q1, q2⟩ := putG_rep2 (key := key) hd (ks := ks) (by simpa using h) h3
    unfold putG
    by_cases e : k = key
    · rw [if_pos e, if_pos e]; exact ⟨rfl, .cons hd h3⟩
    · rw [if_neg e, if_neg e]
      exact ⟨by show k :: _ = k :: _; rw [q1], .cons h2 q2⟩
  | [], _ :: _, _, h, _ => by simp at h
  | _ :: _, [], _, h, _ => by simp at h
/-- the turns of a dict comprehension -/
theorem dc_turns {F1 H1 : Hp} {σ : L2.St} {ρ1 : Env'} {vs : List Nat} {Td : Tab} {tg : Expr} {ifs : List Expr} {kx vx : Expr} {f : Expr → Env' → KR → Prop} {t : Expr → Env' → (Bool → Env' → Prop) → Prop} {J : It} {ds : List D} {kk : List (Option Key) → List D → Env' → Prop} {Q : VK}
    {ok : Hp → Hp → Prop} (e1 : EnvOk κ B F1 H1 σ ρ1) (hJ : WalksG κ ok J ds) (hok : ∀ F2 H2, Same F1 F2 → Same F2 H2 → (∀ a o, H1 a = some o → ¬ Root σ ρ1 a → H2 a = some o) → ok F2 H2) (hTd : ∀ j ∈ tgSlots Td.N tg, j ∈ vs)
    (hd : dCompD (fun d ρ k => dTg Td tg d ρ fun ρ2 => dTests t ifs ρ2 fun b ρ3 => if b = true then f kx ρ3 (fun rk ρ4 => dKey rk fun key => f vx ρ4 (frK fun y ρ5 => k (some (key, y)) (wipeE ρ5 vs))) else k none (wipeE ρ3 vs)) ds (wipeE ρ1 vs) [] [] kk)
    (hq : ∀ ks acc ρ2 q F2 H2 ws, kk ks acc ρ2 → Post κ B F1 H1 (wipe σ vs) (wipeE ρ1 vs) F2 H2 ρ2 → H1 q = none → F2 q = none → ¬ Root (wipe σ vs) ρ2 q → H2 q = some (.dK ws) → ks = ksOf ws → RepL κ F2 acc (vsOf ws) → Q (.ref q) H2) (Dd : Addr) (hD : H1 Dd = none) :
    ∃ W : Nat → Nat → Hp → Prop, (∃ m, W 0 m (upd H1 Dd (.dK []))) ∧ ∀ i m H, W i m H →
      (J.stop i H ∧ Q (.ref Dd) H) ∨ (J.go i H ∧ ∃ Nx : Hp → Prop, (∀ H', Nx H' → ∃ m', m' < m ∧ W (i + 1) m' H') ∧ ∀ x H', J.yld i H x H' → gD κ B Td tg x (wipe σ vs) H' fun σ2 H2 => wipe σ2 vs = wipe σ vs ∧ tTests κ B t ifs σ2 H2 fun b H3 =>
        if b = true then tE κ B f kx σ2 H3 fun y H4 => tE κ B f vx σ2 H4 fun z H5 => ∃ kvs k, y = kV k ∧ H5 Dd = some (.dK kvs) ∧ kvs.length < sizeLine ∧ Nx (upd H5 Dd (.dK (putK kvs k z))) else Nx H3) := by
  have hB : B Dd = none := e1.bas.free hD
  have hF1 : F1 Dd = none := e1.sub.free hD
  have e1w := e1.wipe vs
  have hok : ∀ F2 H2 ρ2, Post κ B F1 H1 (wipe σ vs) (wipeE ρ1 vs) F2 H2 ρ2 → ok F2 H2 := fun F2 H2 ρ2 p => hok F2 H2 p.exF p.env.sub fun a o h r => p.frm a o h fun z => r z.wipe
  refine ⟨fun i m H => m = ds.length - i ∧ i ≤ ds.length ∧ ∃ F ρ acc ws, Post κ B F1 H1 (wipe σ vs) (wipeE ρ1 vs) F H ρ ∧ F Dd = none ∧ ¬ Root (wipe σ vs) ρ Dd ∧ H Dd = some (.dK ws) ∧ (ws.map (·.1)).Nodup ∧ RepL κ F acc (vsOf ws) ∧
    dCompD (fun d ρ k => dTg Td tg d ρ fun ρ2 => dTests t ifs ρ2 fun b ρ3 => if b = true then f kx ρ3 (fun rk ρ4 => dKey rk fun key => f vx ρ4 (frK fun y ρ5 => k (some (key, y)) (wipeE ρ5 vs))) else k none (wipeE ρ3 vs)) (ds.drop i) ρ (ksOf ws) acc kk,
    ⟨ds.length, by simp, Nat.zero_le _, F1, wipeE ρ1 vs, [], [], (Post.refl e1w).temp hD hB hF1 (e1w.noRoot hD), hF1, e1w.noRoot hD, upd_same, List.nodup_nil, .nil, hd⟩, ?_⟩
  rintro i m H ⟨rfl, hi, F, ρ, acc, ws, p, hFd, hnr, hHd, hnd, rl, hd⟩
  by_cases hlt : i < ds.length
  · refine .inr ⟨hJ.go i F H (hok _ _ _ p) hlt, fun H' => ∃ F ρ acc ws, Post κ B F1 H1 (wipe σ vs) (wipeE ρ1 vs) F H' ρ ∧ F Dd = none ∧ ¬ Root (wipe σ vs) ρ Dd ∧ H' Dd = some (.dK ws) ∧ (ws.map (·.1)).Nodup ∧ RepL κ F acc (vsOf ws) ∧
        dCompD (fun d ρ k => dTg Td tg d ρ fun ρ2 => dTests t ifs ρ2 fun b ρ3 => if b = true then f kx ρ3 (fun rk ρ4 => dKey rk fun key => f vx ρ4 (frK fun y ρ5 => k (some (key, y)) (wipeE ρ5 vs))) else k none (wipeE ρ3 vs)) (ds.drop (i + 1)) ρ (ksOf ws) acc kk,
      fun H' hN => ⟨ds.length - (i + 1), by omega, rfl, hlt, hN⟩, fun x H' y => ?_⟩
    obtain ⟨d, F2, g1, g2, g3, g4, g5, g6⟩ := hJ.yld i F H x H' (hok _ _ _ p) hlt y
    rw [List.drop_eq_getElem_cons hlt] at hd
    have ed : ds[i] = d := by rw [List.getElem?_eq_getElem hlt] at g1; exact Option.some.inj g1
    rw [ed] at hd
    have py : Post κ B F1 H1 (wipe σ vs) (wipeE ρ1 vs) F2 H' ρ := p.trans (Post.grow p.env g3 g2 g4 g5)
    have hF2 : F2 Dd = none := by
      cases e : F2 Dd with
      | none => rfl
      | some o => have := g5 Dd hFd (by rw [e]; simp); rw [hHd] at this; cases this
    refine ⟨F2, ρ, d, _, py.env, g6, hd, fun ρ2 σ2 h2 e2 o2 t2 => ?_⟩
    have hw : wipe σ2 vs = wipe σ vs := by rw [wipe_only o2 hTd, wipe_wipe]
    have nr2 : ¬ Root σ2 ρ2 Dd := fun z => hnr (t2 Dd z)
    refine ⟨hw, F2, ρ2, _, e2, h2, fun b ρ3 F3 H3 h3 p3 => ?_⟩
    have d3 : H3 Dd = some (.dK ws) := p3.frm Dd _ (g3 _ _ hHd) nr2
    have f3 : F3 Dd = none := by
      cases e : F3 Dd with
      | none => rfl
      | some o =>
        rcases p3.new Dd hF2 (by rw [e]; simp) with z | z
        · rw [g3 _ _ hHd] at z; cases z
        · exact absurd z nr2
    have nr3 : ¬ Root σ2 ρ3 Dd := fun z => nr2 (p3.rts Dd z)
    cases b with
    | true =>
      refine ⟨F3, ρ3, _, p3.env, h3, fun rk ρ4 kvv F4 H4 h4 p4 o4 => ?_⟩
      have hkey : ∃ key, kvv = kV key ∧ f vx ρ4 (frK fun y ρ5 => ws.length < sizeLine ∧ dCompD (fun d ρ k => dTg Td tg d ρ fun ρ2 => dTests t ifs ρ2 fun b ρ3 => if b = true then f kx ρ3 (fun rk ρ4 => dKey rk fun key => f vx ρ4 (frK fun y ρ5 => k (some (key, y)) (wipeE ρ5 vs))) else k none (wipeE ρ3 vs)) (ds.drop (i + 1)) (wipeE ρ5 vs) (putG (some key) y (ksOf ws) acc).1 (putG (some key) y (ksOf ws) acc).2 kk) := by
        unfold dKey at h4
        cases rk with
        | slot _ => exact h4.elim
        | new _ => exact h4.elim
        | val dk =>
          have o4 : Rep κ F4 dk kvv := o4
          have el : (ksOf ws).length = ws.length := by unfold ksOf; rw [List.length_map]
          cases dk with
          | int i => unfold Rep at o4; exact ⟨.inl i, o4, by rw [← el]; exact h4⟩
          | str i => unfold Rep at o4; exact ⟨.inr i, o4, by rw [← el]; exact h4⟩
          | _ => exact h4.elim
      obtain ⟨key, ekv, h4⟩ := hkey
      have d4 : H4 Dd = some (.dK ws) := p4.frm Dd _ d3 nr3
      have f4 : F4 Dd = none := by
        cases e : F4 Dd with
        | none => rfl
        | some o =>
          rcases p4.new Dd f3 (by rw [e]; simp) with z | z
          · rw [d3] at z; cases z
          · exact absurd z nr3
      have nr4 : ¬ Root σ2 ρ4 Dd := fun z => nr3 (p4.rts Dd z)
      refine ⟨F4, ρ4, _, p4.env, h4, fun r ρ5 yv F5 H5 h5 p5 o5 => ?_⟩
      obtain ⟨dy, ρ5', hz, h5⟩ := frK_inv h5
      obtain ⟨F5', p5', ry⟩ := o5.frz p5 hz
      have d5 : H5 Dd = some (.dK ws) := p5'.frm Dd _ d4 nr4
      have f5 : F5' Dd = none := by
        cases e : F5' Dd with
        | none => rfl
        | some o =>
          rcases p5'.new Dd f4 (by rw [e]; simp) with z | z
          · rw [d4] at z; cases z
          · exact absurd z nr4
      have pq := Post.ofTurn (vs := vs) py t2 ((p3.trans p4).trans p5') hw
      have nr5 : ¬ Root (wipe σ vs) (wipeE ρ5' vs) Dd := fun z => by
        rw [← hw] at z
        exact nr4 (p5'.rts Dd z.wipe)
      have rl5 : RepL κ F5' acc (vsOf ws) := ((rl.mono g2).mono ((p3.exF.trans p4.exF).trans p5'.exF))
      obtain ⟨q1, q2⟩ := putG_rep2 (key := some key) ry (ks := ksOf ws) (by unfold ksOf; rw [List.length_map, rl.len]; unfold vsOf; rw [List.length_map]) rl5
      have em := putK_map key yv ws hnd
      have h5b := h5.2
      rw [q1, ← em] at h5b
      rw [← em] at q2
      exact ⟨ws, key, ekv, d5, h5.1, F5', wipeE ρ5' vs, _, putK ws key yv, pq.temp hD hB f5 nr5, f5, nr5, upd_same, putK_nd key yv ws hnd, q2, h5b⟩
    | false =>
      have pq := Post.ofTurn (vs := vs) py t2 p3 hw
      have nr4 : ¬ Root (wipe σ vs) (wipeE ρ3 vs) Dd := fun z => by
        rw [← hw] at z
        exact nr3 z.wipe
      exact ⟨F3, wipeE ρ3 vs, acc, ws, pq, f3, nr4, d3, hnd, (rl.mono g2).mono p3.exF, h3⟩
  · have e : i = ds.length := by omega
    subst e
    rw [List.drop_length] at hd
    exact .inl ⟨hJ.stop F H (hok _ _ _ p), hq _ acc ρ Dd F H ws hd p hD hFd hnr hHd rfl rl⟩
theorem dc_imp (C : CtxOk κ k X T B xk) {kx vx tg it : Expr} {ifs : List Expr} {scope : Scope} {pos : Pos} (hc : (tgSlots T.N tg).all (fun i => ((ownOf T.N scope).map (·.2)).contains i) = true) {σ : L2.St} {H : Hp} {Q : VK}
    (h : tE κ B (dE (n + 1) T xk) (.DictComp kx vx [⟨tg, it, ifs, 0⟩] scope pos) σ H Q) :
    tDcN X.prog X.w (tDc (tIC κ B T (dE n T xk) scope tg it) (gD κ B (T.blk scope) tg) (tTests κ B (dT n (T.blk scope) fun _ => False) ifs) (tE κ B (dE n (T.blk scope) fun _ => False) kx) (tE κ B (dE n (T.blk scope) fun _ => False) vx) ((ownOf T.N scope).map (·.2))) σ H Q := by
  obtain ⟨F, ρ, k, en, hd, hq⟩ := h
  have hTd : ∀ j ∈ tgSlots (T.blk scope).N tg, j ∈ (ownOf T.N scope).map (·.2) := fun j hj => by
    have := List.all_eq_true.mp hc j hj
    simpa using this
  refine ⟨F, ρ, _, en, hd.2, fun ds ρ1 u F1 H1 J ok h1 p1 hJ hok hu hr' Dd hD => ?_⟩
  refine dc_turns (Q := fun v H' => ∃ q kvs, v = .ref q ∧ H' q = some (.dK kvs) ∧ Q v (upd H' q (.ext (ndP X.prog X.w q (ksOf kvs) (vsOf kvs))))) p1.env hJ hok hTd h1 (fun ks acc ρ2 q F2 H2 ws hk p2 h0 hF hr hH ek rl => ?_) Dd hD
  have pb := Post.ofBlock p1.env p2
  have pu := hu _ _ _ pb
  have nru : ¬ Root σ (u (backE ρ1 ρ2 ((ownOf T.N scope).map (·.2)))) q := fun z => hr (by
    rcases hr' q _ z with z | z
    · obtain ⟨j, d', hj, hq'⟩ := z
      rcases backE_some hj with ⟨_, _, d, z⟩ | ⟨a1, a2⟩
      · cases z
      · exact ⟨j, d', a2, by rw [wipe_out a1]; exact hq'⟩
    · exact absurd h0 z)
  refine ⟨q, ws, rfl, hH, ?_⟩
  have pt := pu.temp (q := q) (o := .ext (ndP X.prog X.w q (ksOf ws) (vsOf ws))) (p1.back h0) (p1.env.bas.free h0) hF nru
  subst ek
  exact hq _ _ _ F2 _ hk pt ⟨q, rfl, hF, nru, ⟨vsOf ws, by rw [upd_same, C.hnd], by unfold ksOf; rw [List.length_map, rl.len]; unfold vsOf; rw [List.length_map], rl⟩, p1.back h0, p1.env.bas.free h0⟩
theorem c_dc (C : CtxOk κ k X T B xk) (hf : ∀ e, PE X e (tE κ B (dE n T xk) e))
    (hb : ∀ {X : Cx} {T : Tab} {xk : DX → Prop}, CtxOk κ k X T B xk → (∀ e, PE X e (tE κ B (dE n T xk) e)) ∧ ∀ e, PT X e (tTe κ B (dT n T xk) e)) {kx vx : Expr} {gens : List Comprehension} {scope : Scope} {pos : Pos} :
    PE X (.DictComp kx vx gens scope pos) (tE κ B (dE (n + 1) T xk) (.DictComp kx vx gens scope pos)) := by
  match gens with
  | [⟨tg, it, ifs, a⟩] =>
    by_cases ha : a = 0
    · subst ha
      by_cases hc : blkC T.N ⟨.function, T.nm, false, false, []⟩ scope (ownOf T.N scope) = true ∧ (tgSlots T.N tg).all (fun i => ((ownOf T.N scope).map (·.2)).contains i) = true
      · have ok := lc_blk C hc.1
        have hN : X.N.Nodup := by rw [C.hN]; exact C.nd
        by_cases hs : noSet it = true
        · have Cb := fun (s : Shared) (H : Hp) (Ca : Addr) (cl : List (Str × Addr)) (fp : List Addr) => C.blk ok.kind s H Ca cl fp
          exact PE.imp (pe_dcN (pe_dc (own := ownOf T.N scope) C.calm hN (c_iterC C hf scope tg it) ok (fun s H Ca cl fp => c_tg (Cb s H Ca cl fp) tg) (fun s H Ca cl fp => c_tests (hb (Cb s H Ca cl fp)).2 ifs) (fun s H Ca cl fp => (hb (Cb s H Ca cl fp)).1 kx) (fun s H Ca cl fp => (hb (Cb s H Ca cl fp)).1 vx) (fs_noSet hs X.env))) fun σ H Q h => dc_imp C hc.2 h
        · exact PE.no fun σ H Q ⟨F, ρ, k, en, hd, hq⟩ => hs (dIterC_noSet hd.2)
      · exact PE.no fun σ H Q ⟨F, ρ, k, en, hd, hq⟩ => hc hd.1
    · exact PE.no fun σ H Q ⟨F, ρ, k, en, hd, hq⟩ => by
        have hd : (match [(⟨tg, it, ifs, a⟩ : Comprehension)] with
          | [⟨tg, it, ifs, 0⟩] => _
          | _ => False) := hd
        split at hd
        · rename_i e; cases e; exact ha rfl
        · exact hd
  | [] => exact PE.no fun σ H Q ⟨F, ρ, k, en, hd, hq⟩ => hd
  | g1 :: g2 :: gs =>
    exact PE.no fun σ H Q ⟨F, ρ, k, en, hd, hq⟩ => by
        have hd : (match (g1 :: g2 :: gs : List Comprehension) with
          | [⟨tg, it, ifs, 0⟩] => _
          | _ => False) := hd
        split at hd
        · rename_i e; cases e
        · exact hd
end
end DL

set_option Elab.async false
set_option linter.all false
set_option maxRecDepth 100000
set_option maxHeartbeats 1000000
/-! DL12: every expression. -/
namespace DL
open PySem PySem.Spec PyProof.Rows L2

section
variable {κ : KB} {k : Nat} {X : Cx} {T : Tab} {B : Hp} {xk : DX → Prop} {n : Nat}
theorem tru_of {F H : Hp} {d : D} {v : V} {b : Bool} (hK : X.K = κ.K) (sF : Same F H) (h : RdAt κ F H d v) (e : truD d = some b) : TruV X.K v H b := by
  cases d with
  | non => cases h; cases e; rfl
  | bl _ => cases h; cases e; rfl
  | int _ => cases h; cases e; rfl
  | lst xs =>
    obtain ⟨p, vs, rfl, h1, r⟩ := h
    cases e
    refine .inl ⟨vs, SqL.of h1, ?_⟩
    have := r.len
    cases xs <;> cases vs <;> simp at this ⊢
  | tup xs =>
    have h : Rep κ F (.tup xs) v := h
    unfold Rep at h
    obtain ⟨p, vs, rfl, h1, r⟩ := h
    cases e
    refine .inr (.inl ⟨vs, by rw [hK]; exact (same_t sF h1).sq, ?_⟩)
    have := r.len
    cases xs <;> cases vs <;> simp at this ⊢
  | _ => cases e
theorem c_truth (C : CtxOk κ k X T B xk) {e : Expr} (hf : PE X e (tE κ B (dE n T xk) e)) (he : ∀ whole, isTrue e X.env whole = (do let v ← whole; standAt e.pos; holding [v] (truthy v))) :
    PT X e (tTe κ B (fun e ρ k => dE n T xk e ρ fun r ρ1 => (match look ρ1 r with
      | some d => (match truD d with
        | some b => k b ρ1
        | none => False)
      | none => False)) e) := by
  refine PT.imp (pt_truth hf he) fun σ H Q ⟨F, ρ, k, en, hd, hq⟩ => ⟨F, ρ, _, en, hd, fun r ρ1 v F1 H1 h1 p1 o1 => ?_⟩
  cases hl : look ρ1 r with
  | none => rw [hl] at h1; exact h1.elim
  | some d =>
    rw [hl] at h1
    dsimp only at h1
    cases ht : truD d with
    | none => rw [ht] at h1; exact h1.elim
    | some b =>
      rw [ht] at h1
      exact ⟨b, tru_of C.hK p1.env.sub (o1.rd p1.env hl) ht, hq b ρ1 F1 H1 h1 p1⟩
theorem gl_of (C : CtxOk κ k X T B xk) {x : Str} (h : T.nm.lookup x = some .globalImplicit) : Gl X x := by
  show X.env.scope.names.lookup x = _
  rw [C.nm]; exact h
theorem c_call (C : CtxOk κ k X T B xk) (hf : ∀ e, PE X e (tE κ B (dE n T xk) e)) {g : Expr} {args : List Expr} {kws : List Keyword} {pos : Pos} :
    PE X (.Call g args kws pos) (tE κ B (dE (n + 1) T xk) (.Call g args kws pos)) := by
  by_cases h0 : kws = [] ∧ args.any isStar = false
  · obtain ⟨rfl, hst⟩ := h0
    cases g with
    | Name x p =>
      by_cases hb0 : badName x = false
      case neg => exact PE.no fun σ H Q ⟨F, ρ, k, en, hd, hq⟩ => hb0 hd.2.1
      have no : (∀ ρ (k : KR), ¬ dE (n + 1) T xk (.Call (.Name x p) args [] pos) ρ k) → PE X (.Call (.Name x p) args [] pos) (tE κ B (dE (n + 1) T xk) (.Call (.Name x p) args [] pos)) := fun h => PE.no fun σ H Q ⟨F, ρ, k, en, hd, hq⟩ => h ρ k hd
      cases hnm : T.nm.lookup x with
      | none => exact no fun ρ k hd => by have h := hd.2.2; rw [hnm] at h; exact h
      | some nk =>
       cases nk with
       | «local» => exact PE.imp (c_clsV C hf hb0 hnm hst) fun σ H Q ⟨F, ρ, k, en, hd, hq⟩ => ⟨F, ρ, k, en, by have h := hd.2.2; rw [hnm] at h; exact h, hq⟩
       | cell => exact no fun ρ k hd => by have h := hd.2.2; rw [hnm] at h; exact h
       | free => exact no fun ρ k hd => by have h := hd.2.2; rw [hnm] at h; exact h
       | globalExplicit => exact no fun ρ k hd => by have h := hd.2.2; rw [hnm] at h; exact h
       | globalImplicit =>
        have hb := hb0
        have hn := hnm
        have hg := gl_of C hn
        cases hgv : T.g.lookup x with
        | none => exact no fun ρ k hd => by have h := hd.2.2; rw [hnm] at h; dsimp only at h; rw [hgv] at h; exact h
        | some gv =>
          cases gv with
          | val d => exact no fun ρ k hd => by have h := hd.2.2; rw [hnm] at h; dsimp only at h; rw [hgv] at h; exact h
          | fn sm =>
            cases hl : T.fx.contains (.lend x) with
            | true => exact PE.imp (c_fnL C hf hb hg hgv hst) fun σ H Q ⟨F, ρ, k, en, hd, hq⟩ => ⟨F, ρ, k, en, by have h := hd.2.2; rw [hnm] at h; dsimp only at h; rw [hgv] at h; dsimp only at h; rw [hl] at h; exact h, hq⟩
            | false => exact PE.imp (c_fn C hf hb hg hgv hst) fun σ H Q ⟨F, ρ, k, en, hd, hq⟩ => ⟨F, ρ, k, en, by have h := hd.2.2; rw [hnm] at h; dsimp only at h; rw [hgv] at h; dsimp only at h; rw [hl] at h; exact h, hq⟩
          | cls c sm =>
            cases hl : T.fx.contains (.lend x) with
            | true => exact PE.imp (c_clsL C hf hb hg hgv hst) fun σ H Q ⟨F, ρ, k, en, hd, hq⟩ => ⟨F, ρ, k, en, by have h := hd.2.2; rw [hnm] at h; dsimp only at h; rw [hgv] at h; dsimp only at h; rw [hl] at h; exact h, hq⟩
            | false => exact PE.imp (c_cls C hf hb hg hgv hst) fun σ H Q ⟨F, ρ, k, en, hd, hq⟩ => ⟨F, ρ, k, en, by have h := hd.2.2; rw [hnm] at h; dsimp only at h; rw [hgv] at h; dsimp only at h; rw [hl] at h; exact h, hq⟩
          | blt =>
            cases hi : bltIds.lookup x with
            | none => exact no fun ρ k hd => by have h := hd.2.2; rw [hnm] at h; dsimp only at h; rw [hgv] at h; dsimp only at h; rw [hi] at h; exact h
            | some id => exact PE.imp (c_blt C hf hb hg hgv hst hi) fun σ H Q ⟨F, ρ, k, en, hd, hq⟩ => ⟨F, ρ, k, en, by have h := hd.2.2; rw [hnm] at h; dsimp only at h; rw [hgv] at h; dsimp only at h; rw [hi] at h; exact h, hq⟩
          | bty ty => exact PE.imp (c_bty C hf hb hg hgv hst) fun σ H Q ⟨F, ρ, k, en, hd, hq⟩ => ⟨F, ρ, k, en, by have h := hd.2.2; rw [hnm] at h; dsimp only at h; rw [hgv] at h; exact h.2, hq⟩
    | Attribute o m apos =>
      by_cases hm : methOk o apos pos args = true
      · cases hk : methKind m with
        | own => exact PE.imp (c_meth C hf hm) fun σ H Q ⟨F, ρ, k, en, hd, hq⟩ => ⟨F, ρ, k, en, by have h := hd.2.2; rw [hk] at h; exact h, hq⟩
        | list =>
          have hk' : m = ("append" : Str) ∨ m = ("pop" : Str) ∨ m = ("insert" : Str) ∨ m = ("reverse" : Str) := by
            unfold methKind at hk
            by_cases hc : listMs.contains m = true
            · simpa [listMs] using hc
            · rw [if_neg hc] at hk; split at hk <;> cases hk
          exact PE.imp (c_listm C hf hm hk') fun σ H Q ⟨F, ρ, k, en, hd, hq⟩ => ⟨F, ρ, k, en, by have h := hd.2.2; rw [hk] at h; exact h, hq⟩
        | str =>
          have hk' : m = ("split" : Str) ∨ m = ("join" : Str) ∨ m = ("removeprefix" : Str) := by
            unfold methKind at hk
            by_cases hc : listMs.contains m = true
            · rw [if_pos hc] at hk; cases hk
            · rw [if_neg hc] at hk
              by_cases hs : strMs.contains m = true
              · simpa [strMs] using hs
              · rw [if_neg hs] at hk; cases hk
          exact PE.imp (c_strm C hf hm hk') fun σ H Q ⟨F, ρ, k, en, hd, hq⟩ => ⟨F, ρ, k, en, by have h := hd.2.2; rw [hk] at h; exact h, hq⟩
      · exact PE.no fun σ H Q ⟨F, ρ, k, en, hd, hq⟩ => hm hd.2.1
    | _ => exact PE.no fun σ H Q ⟨F, ρ, k, en, hd, hq⟩ => hd.2
  · exact PE.no fun σ H Q ⟨F, ρ, k, en, hd, hq⟩ => h0 hd.1
/-! ### f-texts -/
theorem c_fmt (C : CtxOk κ k X T B xk) (hf : ∀ e, PE X e (tE κ B (dE n T xk) e)) {e : Expr} {cv : Int} {fm : Option Expr} {pos : Pos} : PE X (.FormattedValue e cv fm pos) (tE κ B (dE (n + 1) T xk) (.FormattedValue e cv fm pos)) := by
  by_cases h0 : cv = -1 ∧ fm = none
  · obtain ⟨rfl, rfl⟩ := h0
    refine PE.imp (pe_fmt (hf e)) fun σ H Q ⟨F, ρ, k, en, hd, hq⟩ => ⟨F, ρ, _, en, hd.2, fun r ρ1 v F1 H1 h1 p1 o1 => ?_⟩
    cases hl : look ρ1 r with
    | none => rw [hl] at h1; exact h1.elim
    | some d =>
      rw [hl] at h1
      have rd := o1.rd p1.env hl
      cases d with
      | str y => cases rd; exact .inl ⟨y, rfl, h1.1, hq _ ρ1 _ F1 H1 h1.2 p1 rfl⟩
      | int i => cases rd; exact .inr ⟨i, rfl, h1.1, hq _ ρ1 _ F1 H1 h1.2 p1 rfl⟩
      | _ => exact h1.elim
  · exact PE.no fun σ H Q ⟨F, ρ, k, en, hd, hq⟩ => h0 hd.1
theorem pj_all (hf : ∀ e, PE X e (tE κ B (dE n T xk) e)) : ∀ vs : List Expr, PJ X vs (vs.map fun e => tE κ B (dE n T xk) e)
  | [] => .nil
  | e :: es => .cons (hf e) (pj_all hf es)
theorem js_imp {F0 H0 : Hp} {σ : L2.St} {ρ0 : Env'} {kk : Str → Env' → Prop} {Q : Str → Hp → Prop} (hq : ∀ out ρ' F' H', kk out ρ' → Post κ B F0 H0 σ ρ0 F' H' ρ' → Q out H') :
    ∀ (vs : List Expr) (acc : Str) (F H : Hp) (ρ : Env'), Post κ B F0 H0 σ ρ0 F H ρ → dJs (dE n T xk) vs acc ρ kk → tJs (vs.map fun e => tE κ B (dE n T xk) e) acc σ H Q
  | [], acc, F, H, ρ, p, hd => hq acc ρ F H hd p
  | e :: es, acc, F, H, ρ, p, hd => by
    refine ⟨F, ρ, _, p.env, hd, fun r ρ1 v F1 H1 h1 p1 o1 => ?_⟩
    split at h1
    · cases o1
      exact ⟨_, rfl, h1.1, js_imp hq es _ F1 H1 ρ1 (p.trans p1) h1.2⟩
    · exact h1.elim
theorem c_joined (C : CtxOk κ k X T B xk) (hf : ∀ e, PE X e (tE κ B (dE n T xk) e)) {vs : List Expr} {pos : Pos} : PE X (.JoinedStr vs pos) (tE κ B (dE (n + 1) T xk) (.JoinedStr vs pos)) := by
  match vs with
  | v1 :: v2 :: rest => exact PE.imp (pe_joined (pj_all hf (v1 :: v2 :: rest))) fun σ H Q ⟨F, ρ, k, en, hd, hq⟩ => js_imp (fun out ρ' F' H' hk p => hq (.val (.str out)) ρ' (.str out) F' H' hk p rfl) (v1 :: v2 :: rest) Str.empty F H ρ (.refl en) hd
  | [] => exact PE.no fun σ H Q ⟨F, ρ, k, en, hd, hq⟩ => hd
  | [_] => exact PE.no fun σ H Q ⟨F, ρ, k, en, hd, hq⟩ => hd
end
theorem c_all {κ : KB} {k : Nat} {B : Hp} : ∀ (n : Nat) {X : Cx} {T : Tab} {xk : DX → Prop}, CtxOk κ k X T B xk → (∀ e, PE X e (tE κ B (dE n T xk) e)) ∧ ∀ e, PT X e (tTe κ B (dT n T xk) e)
  | 0, X, T, xk, C => ⟨fun e => PE.no fun σ H Q ⟨F, ρ, k, en, hd, hq⟩ => by unfold dE at hd; exact hd, fun e => PT.no fun σ H Q ⟨F, ρ, k, en, hd, hq⟩ => by unfold dT at hd; exact hd⟩
  | n + 1, X, T, xk, C => by
    obtain ⟨hf, ht⟩ := c_all n C
    have ihb : ∀ {X : Cx} {T : Tab} {xk : DX → Prop}, CtxOk κ k X T B xk → (∀ e, PE X e (tE κ B (dE n T xk) e)) ∧ ∀ e, PT X e (tTe κ B (dT n T xk) e) := fun C => c_all n C
    refine ⟨fun e => ?_, fun e => ?_⟩
    · cases e with
      | Constant c j pos => exact c_const
      | Name x pos => exact c_name C
      | BinOp a op b pos => exact c_bin C hf
      | Compare a ops cs pos => exact c_cmp C hf
      | BoolOp op vs pos => exact PE.imp (c_boolV hf) fun σ H Q h => h
      | UnaryOp op a pos => exact c_un hf
      | IfExp c a b pos => exact c_if hf ht
      | List es pos => exact c_list hf
      | Tuple es j pos => exact c_tuple hf
      | Attribute o m pos => exact c_attr C hf
      | Dict ks vs pos =>
        cases ks with
        | nil =>
          cases vs with
          | nil => exact c_dict C
          | cons _ _ => exact PE.no fun σ H Q ⟨F, ρ, k, en, hd, hq⟩ => hd.1.2.2.2 rfl
        | cons a ks => exact c_disp C hf fun ρ kr h => h
      | Subscript o i pos => exact c_sub C hf
      | Call g args kws pos => exact c_call C hf
      | ListComp elt gens scope pos => exact c_lc C hf ihb
      | DictComp kx vx gens scope pos => exact c_dc C hf ihb
      | JoinedStr vs pos => exact c_joined C hf
      | FormattedValue e cv fm pos => exact c_fmt C hf
      | _ => exact PE.no fun σ H Q ⟨F, ρ, k, en, hd, hq⟩ => hd
    · cases e with
      | BoolOp op vs pos => exact PT.imp (c_boolT ht).pt fun σ H Q h => h
      | Compare a ops cs pos => exact c_cmpT C hf
      | UnaryOp op a pos =>
        cases op with
        | Not => exact PT.imp (pt_not (ht a)) fun σ H Q ⟨F, ρ, k, en, hd, hq⟩ => ⟨F, ρ, _, en, hd, fun b ρ' F' H' hk p => hq _ ρ' F' H' hk p⟩
        | _ => exact PT.imp (c_truth C (hf _) fun _ => rfl) fun σ H Q h => h
      | IfExp c a b pos => exact PT.no fun σ H Q ⟨F, ρ, k, en, hd, hq⟩ => hd
      | _ => first | exact PT.imp (c_truth C (hf _) fun _ => rfl) fun σ H Q h => h | skip
end DL

set_option Elab.async false
set_option linter.all false
set_option maxRecDepth 100000
set_option maxHeartbeats 1000000
/-! DL13: the interpreter on statements. -/
namespace DL
open PySem PySem.Spec PyProof.Rows L2

structure DEnds where
  nx : Env' → Prop
  rt : D → Env' → Prop
  bk : Env' → Prop := fun _ => False
  ct : Env' → Prop := fun _ => False
/-- a result that is no slot -/
def unslot (k : KR) : KR := fun r ρ => match r with
  | .slot i => frK (fun d ρ' => k (.val d) ρ') (.slot i) ρ
  | .val d => k (.val d) ρ
  | .new d => k (.new d) ρ
def putR (ρ : Env') (i : Nat) : R → Env'
  | .val d => ρ.set i (some (.fr d))
  | .new d => ρ.set i (some (.ow d))
  | .slot _ => ρ
/-- the slot of a local name; self is kept -/
def slotOk (sf : Bool) (o : Option Nat) : Option Nat := match o with
  | some 0 => if sf then none else some 0
  | o => o
def locSlot (T : Tab) (sf : Bool) (x : Str) : Option Nat := match T.nm.lookup x with
  | some .local => slotOk sf (slotOf T.N x)
  | some .cell => if T.fn x then slotOk sf (slotOf T.N x) else none
  | _ => none
def tgKeeps (T : Tab) (sf : Bool) (tg : Expr) : Bool := !sf || !(tgSlots T.N tg).contains 0
def isComp : Expr → Bool
  | .ListComp .. => true
  | .SetComp .. => true
  | .DictComp .. => true
  | _ => false
def isDC : Expr → Bool
  | .DictComp .. => true
  | _ => false
def isSlice : Expr → Bool
  | .Slice .. => true
  | _ => false
/-- the names of targets -/
def nmsOf : List Expr → Option (List Str)
  | [] => some []
  | .Name x _ :: r => (nmsOf r).map (x :: ·)
  | _ => none
/-- their slots, all unlike -/
def slotsOf (T : Tab) (sf : Bool) : List Str → Option (List Nat)
  | [] => some []
  | x :: xs => match locSlot T sf x, slotsOf T sf xs with
    | some i, some is => if is.contains i then none else some (i :: is)
    | _, _ => none
/-- a, b, .. = x, y, .. -/
def parOk (es vs : List Expr) : Bool := match es with
  | .Name _ _ :: _ => ((nmsOf es).isSome && (vs.length == es.length && decide (es.length ≤ 100))) && (!vs.any isStar && (vs.all (foldedForSure 8) || !vs.all (constantsAlone 8)))
  | _ => false
def parSlots (T : Tab) (sf : Bool) (es : List Expr) : Option (List Nat) := match nmsOf es with
  | some xs => slotsOf T sf xs
  | none => none
def parVals : Expr → List Expr
  | .Tuple vs _ _ => vs
  | _ => []
def putFD (f : Str) (d : D) : List Str → List D → List Str × List D
  | n :: ns, x :: xs => if n = f then (n :: ns, d :: xs) else (n :: (putFD f d ns xs).1, x :: (putFD f d ns xs).2)
  | _, _ => ([f], [d])
/-- o[i] = d, o's new content -/
def setD (o i d : D) : Option D := match o with
  | .lst xs => (match i with
    | .int k => (match ixN xs.length k with
      | some j => some (.lst (xs.set j d))
      | none => none)
    | _ => none)
  | .dic ks xs => (match keyD i with
    | some key => some (.dic (putG key d ks xs).1 (putG key d ks xs).2)
    | none => none)
  | _ => none
/-- room for one more -/
def setSz : D → Prop
  | .dic ks _ => ks.length < sizeLine
  | _ => True
section
variable (f : Expr → Env' → KR → Prop) (T : Tab) (sf : Bool)
def dAsgN (x : Str) (e : Expr) (ρ : Env') (K : DEnds) : Prop := match locSlot T sf x with
  | some i => (match isDC e with
    | true => False
    | false => f e ρ (unslot fun r ρ1 => K.nx (putR ρ1 i r)))
  | none => False
def dAsgF (o : Expr) (m : Str) (e : Expr) (ρ : Env') (K : DEnds) : Prop := isComp e = false ∧ f e ρ (frK fun d ρ1 => f o ρ1 fun r ρ2 => match r with
  | .slot i => (match look ρ2 (.slot i) with
    | some (.obj c ns xs) => (T.fls.contains (c, m) = true ∧ ns.length < 1000) ∧ K.nx (ρ2.set i (some (.ow (.obj c (putFD m d ns xs).1 (putFD m d ns xs).2))))
    | _ => False)
  | _ => False)
/-- o[i] = d -/
def dSetS (o i : Expr) (d : D) (ρ : Env') (k : Env' → Prop) : Prop := f o ρ fun r ρ2 => match r with
  | .slot s => f i ρ2 fun ri ρ3 => two ρ3 (.slot s) ri fun x y => (match setD x y d with
    | some x' => setSz x ∧ k (ρ3.set s (some (.ow x')))
    | none => False)
  | _ => False
def swapOf : List Expr → Option ((Expr × Expr) × (Expr × Expr))
  | [.Subscript o i _, .Subscript o' i' _] => some ((o, i), (o', i'))
  | _ => none
def dSwap (o i o' i' e : Expr) (ρ : Env') (K : DEnds) : Prop := (isComp e = false ∧ isSlice i = false ∧ isSlice i' = false) ∧ f e ρ (frK fun d ρ1 => match d with
  | .tup [d1, d2] => dSetS f o i d1 ρ1 fun ρ2 => dSetS f o' i' d2 ρ2 K.nx
  | _ => False)
def starOf : List Expr → Option (Str × Str)
  | [.Name a _, .Starred (.Name b _) _] => some (a, b)
  | _ => none
def dStar (a b : Str) (e : Expr) (ρ : Env') (K : DEnds) : Prop := match locSlot T sf a, locSlot T sf b with
  | some i, some j => (isTup e = false ∧ i ≠ j) ∧ f e ρ fun r ρ1 => (match look ρ1 r with
    | some (.lst (x :: xs)) => K.nx ((setFr ρ1 i x).set j (some (.ow (.lst xs))))
    | _ => False)
  | _, _ => False
/-- each value by itself, none of them a slot -/
def dUns : List Expr → Env' → KRs → Prop
  | [], ρ, k => k [] ρ
  | e :: es, ρ, k => f e ρ (unslot fun r ρ1 => dUns es ρ1 fun rs ρ2 => k (r :: rs) ρ2)
def putRs : Env' → List Nat → List R → Env'
  | ρ, i :: is, r :: rs => putRs (putR ρ i r) is rs
  | ρ, _, _ => ρ
def dAsgT (es : List Expr) (tg e : Expr) (ρ : Env') (K : DEnds) : Prop := match parOk es (parVals e) with
  | true => (match parSlots T sf es with
    | some is => dUns f (parVals e) ρ fun rs ρ1 => K.nx (putRs ρ1 is rs)
    | none => False)
  | false => (match swapOf es with
    | some ((o, i), (o', i')) => dSwap f o i o' i' e ρ K
    | none => match starOf es with
     | some (a, b) => dStar f T sf a b e ρ K
     | none => (isTup e = false ∧ tgKeeps T sf tg = true) ∧ f e ρ (frK fun d ρ1 => dTg T tg d ρ1 K.nx))
def dAsgS (o i e : Expr) (ρ : Env') (K : DEnds) : Prop := (isComp e = false ∧ isSlice i = false) ∧ f e ρ (frK fun d ρ1 => dSetS f o i d ρ1 K.nx)
def augOp : Operator → Option (Int → Int → Int)
  | .Add => some fun a b => a + b
  | .Sub => some fun a b => a - b
  | _ => none
def dAug (x : Str) (op : Operator) (e : Expr) (ρ : Env') (K : DEnds) : Prop := match augOp op with
  | some g => (match locSlot T sf x with
    | some i => (match ρ[i]? with
      | some (some (.fr (.int a))) => f e ρ fun r ρ1 => (match look ρ1 r with
        | some (.int b) => K.nx (setFr ρ1 i (.int (g a b)))
        | _ => False)
      | _ => False)
    | none => False)
  | none => False
end
def dSeq (d1 : Stmt → Env' → DEnds → Prop) : List Stmt → Env' → DEnds → Prop
  | [], ρ, K => K.nx ρ
  | st :: rest, ρ, K => d1 st ρ { K with nx := fun ρ' => dSeq d1 rest ρ' K }
def dForL (T : Tab) (tg : Expr) (body : Env' → DEnds → Prop) : List D → Env' → DEnds → Prop
  | [], ρ, K => K.nx ρ
  | d :: ds, ρ, K => dTg T tg d ρ fun ρ1 => body ρ1 { K with nx := fun ρ2 => dForL T tg body ds ρ2 K, ct := fun ρ2 => dForL T tg body ds ρ2 K, bk := K.nx }
def isBl0 : Option GV → Bool
  | some .blt => true
  | _ => false
theorem isBl0_inv {g : Option GV} (h : isBl0 g = true) : g = some .blt := by
  cases g with
  | none => cases h
  | some v => cases v <;> first | rfl | cases h
/-- while d["now"] == 0 and len(d["great"]) > 0: d["now"] = d["great"].pop() -/
def pumpAt (T : Tab) (c : Expr) (body : List Stmt) : Option Nat := match c, body with
  | .BoolOp .And [.Compare (.Subscript (.Name x1 _) (.Constant (.str n1) _ _) _) [.Eq] [.Constant (.int i1) _ _] _, .Compare (.Call (.Name l _) [.Subscript (.Name x2 _) (.Constant (.str g1) _ _) _] [] _) [.Gt] [.Constant (.int i2) _ _] _] _,
      [.Assign [.Subscript (.Name x3 _) (.Constant (.str n2) _ _) _] (.Call (.Attribute (.Subscript (.Name x4 _) (.Constant (.str g2) _ _) _) m p20) [] [] p21) _] =>
    if x2 = x1 ∧ x3 = x1 ∧ x4 = x1 ∧ n1 = ("now" : Str) ∧ n2 = ("now" : Str) ∧ g1 = ("great" : Str) ∧ g2 = ("great" : Str) ∧ i1 = 0 ∧ i2 = 0 ∧ l = ("len" : Str) ∧ m = ("pop" : Str) ∧ (p20.endLine == p21.line) = true ∧ badName x1 = false ∧
      T.nm.lookup x1 = some .local ∧ T.nm.lookup ("len" : Str) = some .globalImplicit ∧ isBl0 (T.g.lookup ("len" : Str)) = true ∧ T.fx.contains .src = true then slotOf T.N x1 else none
  | _, _ => none
def dPump (i : Nat) (ρ : Env') (K : DEnds) : Prop := match ρ[i]? with
  | some (some (.ow (.dic ks [.box k, .int a, .int b, .int c]))) => (ks = srcKs ∧ k % 2 = 1) ∧ ∀ a', K.nx (ρ.set i (some (.ow (.dic ks [.box k, .int a', .int b, .int c]))))
  | _ => False
def dWh (t : Env' → (Bool → Env' → Prop) → Prop) (body : Env' → DEnds → Prop) : Nat → Env' → DEnds → Prop
  | 0, _, _ => False
  | m + 1, ρ, K => t ρ fun b ρ1 => if b = true then body ρ1 { K with nx := fun ρ2 => dWh t body m ρ2 K, ct := fun ρ2 => dWh t body m ρ2 K, bk := K.nx } else K.nx ρ1
def isStrC : Expr → Bool
  | .Constant (.str _) _ _ => true
  | _ => false
/-- the attribute of an exception class -/
def excF (c : Str) : List Fx → Option Str
  | [] => none
  | .exc c' f :: r => if c' = c then some f else excF c r
  | _ :: r => excF c r
def dRaise (T : Tab) (xk : DX → Prop) (f : Expr → Env' → KR → Prop) (e : Expr) (ρ : Env') : Prop := match e with
  | .Call (.Name c _) [a] [] _ => T.nm.lookup c = some .globalImplicit ∧ isStar a = false ∧ match excF c T.fx with
    | some m => f a ρ (frK fun d _ => xk ⟨c, [m], [d]⟩)
    | none => False
  | _ => False
/-! ### except suites -/
def constD : Const → Option D
  | .none => some .non
  | .bool b => some (.bl b)
  | .int i => some (.int i)
  | .str x => some (.str x)
  | _ => none
/-- a class, by the name of it -/
def clsT (T : Tab) (c : Str) : Option TyN := if badName c then none else match T.nm.lookup c with
  | some .globalImplicit => (match T.g.lookup c with
    | some (.val (.cl c')) => some (.inr c')
    | some (.cls c' _) => some (.inr c')
    | some (.bty n) => some (.inl n)
    | _ => none)
  | _ => none
def isxF (c : Str) (t : TyN) : List Fx → Option Bool
  | [] => none
  | .isx c' t' b :: r => if c' = c ∧ t' = t then some b else isxF c t r
  | _ :: r => isxF c t r
def exmF (c c1 : Str) : List Fx → Option Bool
  | [] => none
  | .exm c' c1' b :: r => if c' = c ∧ c1' = c1 then some b else exmF c c1 r
  | _ :: r => exmF c c1 r
def isBlt : Option GV → Bool
  | some .blt => true
  | _ => false
def mIsi (T : Tab) (en : Option Str) (x : DX) (g y c : Str) : Option D := if g = ("isinstance" : Str) ∧ T.nm.lookup g = some .globalImplicit ∧ isBlt (T.g.lookup g) = true ∧ en = some y then (match clsT T c with
  | some t => (isxF x.c t T.fx).map D.bl
  | none => none) else none
def mAttr (T : Tab) (en : Option Str) (x : DX) (y f : Str) : Option D := if en = some y ∧ T.fx.contains (.xat x.c f) = true then (match (x.ns.zip x.ds).lookup f with
  | some d => if flatD d = true then some d else none
  | none => none) else none
def mAdd : Option D → Option D → Option D
  | some (.int i), some (.int j) => some (.int (i + j))
  | some (.str u), some (.str v) => if u.length + v.length ≤ sizeLine then some (.str (u ++ v)) else none
  | _, _ => none
def mBoolV (f : Expr → Option D) (op : BoolOp) : List Expr → Option D
  | [] => none
  | [e] => f e
  | e :: es => match f e with
    | some (.bl b) => (match op with
      | .And => if b = true then mBoolV f op es else some (.bl false)
      | .Or => if b = true then some (.bl true) else mBoolV f op es)
    | _ => none
def mBoolT (f : Expr → Option Bool) (op : BoolOp) : List Expr → Option Bool
  | [] => none
  | [e] => f e
  | e :: es => match f e with
    | some b => (match op with
      | .And => if b = true then mBoolT f op es else some false
      | .Or => if b = true then some true else mBoolT f op es)
    | _ => none
def boolO : Option D → Option Bool
  | some (.bl b) => some b
  | _ => none
mutual
/-- an expression of an except suite: the exception x (its name en), constants -/
def mE (T : Tab) (en : Option Str) (x : DX) : Nat → Expr → Option D
  | 0, _ => none
  | n + 1, e => match e with
    | .Constant c _ _ => constD c
    | .Attribute (.Name y _) f _ => mAttr T en x y f
    | .Call (.Name g _) [.Name y _, .Name c _] [] _ => mIsi T en x g y c
    | .BoolOp op vs _ => mBoolV (mE T en x n) op vs
    | .UnaryOp .Not a _ => (boolO (mE T en x n a)).map fun b => .bl (!b)
    | .IfExp c a b _ => (match mT T en x n c with
      | some t => if t = true then mE T en x n a else mE T en x n b
      | none => none)
    | .BinOp a .Add b _ => mAdd (mE T en x n a) (mE T en x n b)
    | _ => none
def mT (T : Tab) (en : Option Str) (x : DX) : Nat → Expr → Option Bool
  | 0, _ => none
  | n + 1, e => match e with
    | .BoolOp op vs _ => mBoolT (mT T en x n) op vs
    | .UnaryOp .Not a _ => (mT T en x n a).map fun b => !b
    | .Call (.Name g _) [.Name y _, .Name c _] [] _ => boolO (mIsi T en x g y c)
    | _ => none
end
/-- the suite of an except clause: what was known of the names is forgotten -/
def dSuite (T : Tab) (en : Option Str) (x : DX) (n : Nat) (suite : List Stmt) (K : DEnds) : Prop := match suite with
  | [.Assign [.Name y _] e _] => (isComp e = false ∧ (en == some y) = false) ∧ (match locSlot T false y with
    | some j => (match mE T en x n e with
      | some d => K.nx ((List.replicate T.N.length none).set j (some (.fr d)))
      | none => False)
    | none => False)
  | [.Return (some e) _] => (match mE T en x n e with
    | some d => K.rt d (List.replicate T.N.length none)
    | none => False)
  | _ => False
/-- the slot of the exception's name -/
def exSlot (T : Tab) : Option Str → Option Nat
  | none => some 0
  | some y => if badName y then none else if T.nm.lookup y = some .local then slotOf T.N y else none
def exYes (T : Tab) (en : Option Str) (n : Nat) (suite : List Stmt) (c : Str) (K : DEnds) (xk : DX → Prop) : DX → Prop := fun x => match exmF x.c c T.fx with
  | some true => dSuite T en x n suite K
  | some false => xk x
  | none => False
def isOwn : Option TyN → Option Str
  | some (.inr c) => some c
  | _ => none
def dTry (T : Tab) (n : Nat) (run : (DX → Prop) → Env' → DEnds → Prop) (xk : DX → Prop) (c : Str) (en : Option Str) (suite : List Stmt) (ρ : Env') (K : DEnds) : Prop := match isOwn (clsT T c), exSlot T en with
  | some c', some _ => run (exYes T en n suite c' K xk) ρ K
  | _, _ => False
def dS (T : Tab) (sf : Bool) : (DX → Prop) → Nat → Stmt → Env' → DEnds → Prop
  | _, 0, _, _, _ => False
  | xk, n + 1, st, ρ, K => match st with
    | .Pass _ => K.nx ρ
    | .Break _ => K.bk ρ
    | .Continue _ => K.ct ρ
    | .Expr e _ => (match isStrC e with
      | true => K.nx ρ
      | false => isComp e = false ∧ dE n T xk e ρ fun r ρ1 => K.nx ρ1)
    | .Return (some e) _ => dE n T xk e ρ (frK fun d ρ1 => K.rt d ρ1)
    | .Return none _ => K.rt .non ρ
    | .If c a b _ => dT n T xk c ρ fun t ρ1 => if t = true then dSeq (dS T sf xk n) a ρ1 K else dSeq (dS T sf xk n) b ρ1 K
    | .Assign [tg] e _ => (match tg with
      | .Name x _ => dAsgN (dE n T xk) T sf x e ρ K
      | .Attribute o m _ => dAsgF (dE n T xk) T o m e ρ K
      | .Tuple es _ _ => dAsgT (dE n T xk) T sf es tg e ρ K
      | .Subscript o i _ => dAsgS (dE n T xk) o i e ρ K
      | _ => False)
    | .AugAssign (.Name x _) op e _ => dAug (dE n T xk) T sf x op e ρ K
    | .For tg it body [] _ => tgKeeps T sf tg = true ∧ dIter (dE n T xk) T tg it ρ fun ds ρ1 => dForL T tg (fun ρ K => dSeq (dS T sf xk n) body ρ K) ds ρ1 K
    | .While c body [] _ => (match pumpAt T c body with
      | some i => dPump i ρ K
      | none => ∃ m, dWh (dT n T xk c) (fun ρ K => dSeq (dS T sf xk n) body ρ K) m ρ K)
    | .Raise (some e) none _ => dRaise T xk (dE n T xk) e ρ
    | .Try body [.ExceptHandler (some (.Name c _)) en (b0 :: suite) _] [] [] _ => (sf = false ∧ T.stm = true) ∧ dTry T n (fun xk' ρ K => dSeq (dS T sf xk' n) body ρ K) xk c en (b0 :: suite) ρ K
    | _ => False

/-! ### the state between statements -/
structure SI (κ : KB) (B F0 : Hp) (sf : Bool) (p0 : Addr) (F H : Hp) (σ : L2.St) (ρ : Env') : Prop where
  env : EnvOk κ B F H σ ρ
  ex : Same F0 F
  nw : ∀ a, F0 a = none → F a ≠ none → B a = none
  sl : sf = true → σ[0]? = some (some (.ref p0))
section
variable {κ : KB} {B F0 : Hp} {sf : Bool} {p0 : Addr} {F H F' H' : Hp} {σ : L2.St} {ρ ρ' : Env'}
theorem SI.post (s : SI κ B F0 sf p0 F H σ ρ) (p : Post κ B F H σ ρ F' H' ρ') : SI κ B F0 sf p0 F' H' σ ρ' where
  env := p.env
  ex := s.ex.trans p.exF
  nw := fun a h h' => by
    cases e : F a with
    | some o => exact s.nw a h (by rw [e]; simp)
    | none =>
      rcases p.new a e h' with z | ⟨i, d, z1, z2⟩
      · exact s.env.bas.free z
      · obtain ⟨q, a1, a2, a3, a4⟩ := s.env.ow i d z1
        rw [z2] at a1; cases a1; exact a3
  sl := s.sl
theorem SI.slots (s : SI κ B F0 sf p0 F H σ ρ) {σ' : L2.St} (e : EnvOk κ B F H σ' ρ') (hs : sf = true → σ'[0]? = σ[0]?) : SI κ B F0 sf p0 F H σ' ρ' :=
  ⟨e, s.ex, s.nw, fun h => by rw [hs h]; exact s.sl h⟩
theorem SI.trans {F1 H1 : Hp} {σ1 : L2.St} {ρ1 : Env'} (s : SI κ B F0 sf p0 F1 H1 σ1 ρ1) (t : SI κ B F1 sf p0 F H σ ρ) : SI κ B F0 sf p0 F H σ ρ :=
  ⟨t.env, s.ex.trans t.ex, fun a h h' => by
    cases e : F1 a with
    | none => exact t.nw a e h'
    | some o => exact s.nw a h (by rw [e]; simp), t.sl⟩
theorem SI.again (s : SI κ B F0 sf p0 F H σ ρ) : SI κ B F sf p0 F H σ ρ := ⟨s.env, Same.refl F, fun a h h' => absurd h h', s.sl⟩
/-- what is wanted at the ends -/
structure EOk (κ : KB) (B F0 : Hp) (sf : Bool) (p0 : Addr) (K : DEnds) (E : L2.Ends) : Prop where
  nx : ∀ ρ' σ' F' H', K.nx ρ' → SI κ B F0 sf p0 F' H' σ' ρ' → E.nx σ' H'
  bk : ∀ ρ' σ' F' H', K.bk ρ' → SI κ B F0 sf p0 F' H' σ' ρ' → E.bk σ' H'
  ct : ∀ ρ' σ' F' H', K.ct ρ' → SI κ B F0 sf p0 F' H' σ' ρ' → E.ct σ' H'
  rt : ∀ d ρ' v σ' F' H', K.rt d ρ' → SI κ B F0 sf p0 F' H' σ' ρ' → Rep κ F' d v → E.rt v H'
def tS (κ : KB) (B : Hp) (sf : Bool) (d : Env' → DEnds → Prop) : TS := fun E σ H => ∃ (F0 : Hp) (p0 : Addr) (F : Hp) (ρ : Env') (K : DEnds), SI κ B F0 sf p0 F H σ ρ ∧ d ρ K ∧ EOk κ B F0 sf p0 K E
/-- an owned object comes into a slot -/
theorem EnvOk.setOw (e : EnvOk κ B F H σ ρ) {i : Nat} {d : D} {q : Addr} (hi : i < σ.length) (hF : F q = none) (hr : ¬ Root σ ρ q) (o : OwnAt κ F H d q) (hB : B q = none) : EnvOk κ B F H (σ.set i (some (.ref q))) (ρ.set i (some (.ow d))) where
  bas := e.bas
  sub := e.sub
  len := by rw [List.length_set, List.length_set]; exact e.len
  fr := fun j d' h => by
    rcases set_get h with ⟨rfl, z⟩ | ⟨ne, z⟩
    · cases z
    · obtain ⟨v, a, b⟩ := e.fr j d' z
      exact ⟨v, by rw [List.getElem?_set_ne (Ne.symm ne)]; exact a, b⟩
  ow := fun j d' h => by
    rcases set_get h with ⟨rfl, z⟩ | ⟨ne, z⟩
    · cases z
      exact ⟨q, by rw [List.getElem?_set_self hi], hF, hB, o⟩
    · obtain ⟨p, a, b⟩ := e.ow j d' z
      exact ⟨p, by rw [List.getElem?_set_ne (Ne.symm ne)]; exact a, b⟩
  dj := fun j j' p d1 d2 h h' k k' => by
    rcases set_get h with ⟨rfl, z⟩ | ⟨ne, z⟩
    · rcases set_get h' with ⟨rfl, z'⟩ | ⟨ne', z'⟩
      · rfl
      · rw [List.getElem?_set_self hi] at k; cases k
        rw [List.getElem?_set_ne (Ne.symm ne')] at k'
        exact absurd ⟨j', d2, z', k'⟩ hr
    · rw [List.getElem?_set_ne (Ne.symm ne)] at k
      rcases set_get h' with ⟨rfl, z'⟩ | ⟨ne', z'⟩
      · rw [List.getElem?_set_self hi] at k'; cases k'
        exact absurd ⟨j, d1, z, k⟩ hr
      · rw [List.getElem?_set_ne (Ne.symm ne')] at k'
        exact e.dj j j' p d1 d2 z z' k k'
/-- a result that is no slot, at rest -/
def VN (κ : KB) (B F H : Hp) (σ : L2.St) (ρ : Env') : R → V → Prop
  | .val d, v => Rep κ F d v
  | .new d, v => ∃ p, v = .ref p ∧ F p = none ∧ ¬ Root σ ρ p ∧ OwnAt κ F H d p ∧ B p = none
  | .slot _, _ => False
theorem put_ok (e : EnvOk κ B F H σ ρ) {i : Nat} {r : R} {v : V} (h : VN κ B F H σ ρ r v) : EnvOk κ B F H (σ.set i (some v)) (putR ρ i r) := by
  by_cases hi : i < σ.length
  case neg =>
    have e1 : σ.set i (some v) = σ := List.set_eq_of_length_le (Nat.le_of_not_lt hi)
    have e2 : ∀ x, ρ.set i x = ρ := fun x => List.set_eq_of_length_le (by rw [e.len]; exact Nat.le_of_not_lt hi)
    rw [e1]
    cases r with
    | val d => show EnvOk κ B F H σ (ρ.set i _); rw [e2]; exact e
    | new d => show EnvOk κ B F H σ (ρ.set i _); rw [e2]; exact e
    | slot _ => exact h.elim
  cases r with
  | val d => exact e.setFr hi h
  | new d =>
    obtain ⟨p, rfl, h1, h2, h3, h4⟩ := h
    exact e.setOw hi h1 h2 h3 h4
  | slot _ => exact h.elim
theorem VN.post {r : R} {v : V} (h : VN κ B F H σ ρ r v) (p : Post κ B F H σ ρ F' H' ρ') : VN κ B F' H' σ ρ' r v := by
  cases r with
  | val d => exact Rep.mono p.exF _ _ h
  | new d =>
    obtain ⟨q, rfl, h1, h2, h3, h5⟩ := h
    obtain ⟨o, ho⟩ := h3.there
    refine ⟨q, rfl, ?_, fun z => h2 (p.rts q z), h3.mono p.exF (by rw [p.frm q o ho h2, ho]), h5⟩
    cases e : F' q with
    | none => rfl
    | some z =>
      rcases p.new q h1 (by rw [e]; simp) with z | z
      · rw [ho] at z; cases z
      · exact absurd z h2
  | slot _ => exact h.elim
theorem VN.there {d : D} {v : V} (h : VN κ B F H σ ρ (.new d) v) : ∃ q, v = .ref q ∧ H q ≠ none := by
  obtain ⟨q, rfl, h1, h2, h3, h5⟩ := h
  obtain ⟨o, ho⟩ := h3.there
  exact ⟨q, rfl, by rw [ho]; simp⟩
theorem VN.put {r r' : R} {v w : V} {i : Nat} (h : VN κ B F H σ ρ r v) (h' : VN κ B F H σ ρ r' w) (hd : ∀ d d', r = .new d → r' = .new d' → v ≠ w) : VN κ B F H (σ.set i (some v)) (putR ρ i r) r' w := by
  cases r' with
  | val d => exact h'
  | slot _ => exact h'.elim
  | new d' =>
    obtain ⟨q, rfl, h1, h2, h3, h5⟩ := h'
    refine ⟨q, rfl, h1, fun ⟨l, d1, z1, z2⟩ => ?_, h3, h5⟩
    cases r with
    | slot _ => exact h.elim
    | val d =>
      rcases set_get z1 with ⟨rfl, z⟩ | ⟨ne, z⟩
      · cases z
      · rw [List.getElem?_set_ne (Ne.symm ne)] at z2
        exact h2 ⟨l, d1, z, z2⟩
    | new d =>
      rcases set_get z1 with ⟨rfl, z⟩ | ⟨ne, z⟩
      · rcases set_get z2 with ⟨_, z'⟩ | ⟨ne, _⟩
        · exact hd d d' rfl rfl (by cases z'; rfl)
        · exact ne rfl
      · rw [List.getElem?_set_ne (Ne.symm ne)] at z2
        exact h2 ⟨l, d1, z, z2⟩
theorem unslot_ok {F0' H0' : Hp} {ρ0 : Env'} {r : R} {v : V} {k : KR} (o : ROk κ B H0' F H σ ρ r v) (p : Post κ B F0' H0' σ ρ0 F H ρ) (h : unslot k r ρ) : ∃ r' ρ' F', k r' ρ' ∧ Post κ B F0' H0' σ ρ0 F' H ρ' ∧ VN κ B F' H σ ρ' r' v ∧ ∀ q, H0' q ≠ none → (∃ d, r' = .new d) → v ≠ .ref q := by
  cases r with
  | val d => exact ⟨_, ρ, F, h, p, o, fun q _ z => by obtain ⟨_, z⟩ := z; cases z⟩
  | new d =>
    obtain ⟨q, rfl, h1, h2, h3, h4, h5⟩ := o
    refine ⟨_, ρ, F, h, p, ⟨q, rfl, h1, h2, h3, h5⟩, fun q' hq _ z => ?_⟩
    cases z
    exact hq h4
  | slot i =>
    obtain ⟨d, ρ', hz, h⟩ := frK_inv h
    obtain ⟨F', p', rp⟩ := o.frz p hz
    exact ⟨_, ρ', F', h, p', rp, fun q _ z => by obtain ⟨_, z⟩ := z; cases z⟩
end
end DL

set_option Elab.async false
set_option linter.all false
set_option maxRecDepth 100000
set_option maxHeartbeats 1000000
/-! DL14: every statement. -/
namespace DL
open PySem PySem.Spec PyProof.Rows L2

theorem PS.no {X : Cx} {st : Stmt} {t : TS} (i : ∀ E σ H, t E σ H → False) : PS X st t := ⟨fun _ _ σ H E _ q => (i E σ H q).elim⟩
theorem sw_none {e : Expr} (h : isComp e = false) (tg : Option Expr) (l : Nat) (env : Env) : swapsWith e tg l env = pure false := by cases e <;> first | rfl | cases h
theorem sw_eq {elt : Expr} {gs : List Comprehension} {scope : Scope} {pos py : Pos} {y : Str} {l : Nat} {env : Env} (hk : env.scope.kind = .function) :
    swapsWith (.ListComp elt gs scope pos) (some (.Name y py)) l env = pure ((env.kindOf y == some .local) && (py.line == pos.line) && !(scope.names.any fun (n, k) => n == y && (k == .local || k == .cell))) := by
  have hb : env.blockKind = .function := by unfold Env.blockKind; rw [hk]; rfl
  unfold swapsWith
  simp only [hb, Expr.pos]
  rfl

section
variable {κ : KB} {k : Nat} {X : Cx} {T : Tab} {B : Hp} {xk : DX → Prop} {n : Nat} {sf : Bool}
theorem slotOk_inv {o : Option Nat} {i : Nat} (h : slotOk sf o = some i) : o = some i ∧ (sf = true → i ≠ 0) := by
  unfold slotOk at h
  split at h
  · split at h
    · cases h
    · cases h; exact ⟨rfl, fun z => absurd z (by assumption)⟩
  · rename_i hn
    exact ⟨h, fun _ z => hn (by rw [h, z])⟩
theorem loc_inv (C : CtxOk κ k X T B xk) {x : Str} {i : Nat} (h : locSlot T sf x = some i) : X.N[i]? = some x ∧ L2.Loc X.env.scope x ∧ (X.fn x = true ∨ X.env.scope.names.lookup x = some .local) ∧ (sf = true → i ≠ 0) := by
  have two : ∀ {i}, slotOk sf (slotOf T.N x) = some i → X.N[i]? = some x ∧ (sf = true → i ≠ 0) := fun {i} h => by
    obtain ⟨a, b⟩ := slotOk_inv h
    exact ⟨by rw [C.hN]; exact slotOf_get a, b⟩
  unfold locSlot at h
  split at h
  · rename_i e
    obtain ⟨a, b⟩ := two h
    exact ⟨a, .inl (by rw [C.nm]; exact e), .inr (by rw [C.nm]; exact e), b⟩
  · rename_i e
    split at h
    · rename_i ef
      obtain ⟨a, b⟩ := two h
      exact ⟨a, .inr (by rw [C.nm]; exact e), .inl (C.fnc x e ef), b⟩
    · cases h
  · cases h
theorem set0 {σ : L2.St} {i : Nat} {v : V} (h : sf = true → i ≠ 0) : sf = true → (σ.set i (some v))[0]? = σ[0]? := fun e => by
  rw [List.getElem?_set_ne (h e)]
/-- what is wanted of name = value -/
theorem asg_imp {x : Str} {e : Expr} {i : Nat} (hl : locSlot T sf x = some i) (h0 : sf = true → i ≠ 0) {E : L2.Ends} {σ : L2.St} {H : Hp} (h : tS κ B sf (fun ρ K => dAsgN (dE n T xk) T sf x e ρ K) E σ H) : tAsg (tE κ B (dE n T xk) e) (gName i) E σ H := by
  obtain ⟨F0, p0, F, ρ, K, si, hd, eo⟩ := h
  unfold dAsgN at hd
  rw [hl] at hd
  dsimp only at hd
  split at hd
  · exact hd.elim
  refine ⟨F, ρ, _, si.env, hd, fun r ρ1 v F1 H1 h1 p1 o1 => ?_⟩
  obtain ⟨r', ρ', F', hk, p', vn, _⟩ := unslot_ok o1 p1 h1
  exact eo.nx _ _ F' H1 hk ((si.post p').slots (put_ok p'.env vn) (set0 h0))
theorem s_set (C : CtxOk κ k X T B xk) {x : Str} {py pos : Pos} {e : Expr} : PS X (.Assign [.Name x py] e pos) (tS κ B sf (dS T sf xk (n + 1) (.Assign [.Name x py] e pos))) := by
  have hf := (c_all n C).1
  cases hl : locSlot T sf x with
  | none =>
    exact PS.no fun E σ H ⟨F0, p0, F, ρ, K, si, hd, eo⟩ => by
      have hd : dAsgN (dE n T xk) T sf x e ρ K := hd
      unfold dAsgN at hd
      rw [hl] at hd; exact hd
  | some i =>
    obtain ⟨hi, hx, hfn, h0⟩ := loc_inv C hl
    have hN : X.N.Nodup := by rw [C.hN]; exact C.nd
    by_cases hsw : swapsWith e (some (.Name x py)) pos.line X.env = pure false
    · exact PS.imp (ps_set hN hi hx (hf e) hsw hfn) fun E σ H h => asg_imp hl h0 h
    · cases e with
      | ListComp elt gens scope lpos =>
        have hq := sw_eq (elt := elt) (gs := gens) (scope := scope) (pos := lpos) (py := py) (y := x) (l := pos.line) (env := X.env) C.knd
        cases hb : ((X.env.kindOf x == some .local) && (py.line == lpos.line) && !(scope.names.any fun (n, k) => n == x && (k == .local || k == .cell))) with
        | false => rw [hb] at hq; exact absurd hq hsw
        | true =>
          rw [hb] at hq
          have hyl : X.env.scope.names.lookup x = some .local := by
            have := (Bool.and_eq_true_iff.mp (Bool.and_eq_true_iff.mp hb).1).1
            exact eq_of_beq this
          cases n with
          | zero =>
            exact PS.no fun E σ H ⟨F0, p0, F, ρ, K, si, hd, eo⟩ => by
              have hd : dAsgN (dE 0 T xk) T sf x (.ListComp elt gens scope lpos) ρ K := hd
              unfold dAsgN at hd
              rw [hl] at hd
              dsimp only [isDC] at hd
              unfold dE at hd; exact hd
          | succ n =>
            have key : ∀ (E : L2.Ends) (σ : L2.St) (H : Hp), tS κ B sf (dS T sf xk (n + 1 + 1) (.Assign [.Name x py] (.ListComp elt gens scope lpos) pos)) E σ H → ∃ ρ kr, dE (n + 1) T xk (.ListComp elt gens scope lpos) ρ kr := fun E σ H ⟨F0, p0, F, ρ, K, si, hd, eo⟩ => by
              have hd : dAsgN (dE (n + 1) T xk) T sf x (.ListComp elt gens scope lpos) ρ K := hd
              unfold dAsgN at hd
              rw [hl] at hd
              exact ⟨ρ, _, hd⟩
            match gens, key, hq with
            | [⟨tg, it, ifs, a⟩], key, hq =>
              by_cases ha : a = 0
              · subst ha
                by_cases hc : blkC T.N ⟨.function, T.nm, false, false, []⟩ scope (ownOf T.N scope) = true ∧ (tgSlots T.N tg).all (fun i => ((ownOf T.N scope).map (·.2)).contains i) = true
                · by_cases hs : noSet it = true
                  · have ok := lc_blk C hc.1
                    have Cb := fun (s : Shared) (H : Hp) (Ca : Addr) (cl : List (Str × Addr)) (fp : List Addr) => C.blk ok.kind s H Ca cl fp
                    refine PS.imp (ps_setLc (own := ownOf T.N scope) C.calm hN hi hyl hq (c_iterC C (c_all n C).1 scope tg it) ok (fun s H Ca cl fp => c_tg (Cb s H Ca cl fp) tg) (fun s H Ca cl fp => c_tests (c_all n (Cb s H Ca cl fp)).2 ifs) (fun s H Ca cl fp => (c_all n (Cb s H Ca cl fp)).1 elt) (fs_noSet hs X.env)) fun E σ H h => ?_
                    exact lc_imp hc.2 (asg_imp hl h0 h)
                  · exact PS.no fun E σ H h => by
                      obtain ⟨ρ, kr, hd⟩ := key E σ H h
                      exact hs (dIterC_noSet hd.2)
                · exact PS.no fun E σ H h => by
                    obtain ⟨ρ, kr, hd⟩ := key E σ H h
                    exact hc hd.1
              · exact PS.no fun E σ H h => by
                  obtain ⟨ρ, kr, hd⟩ := key E σ H h
                  have hd : (match [(⟨tg, it, ifs, a⟩ : Comprehension)] with
                    | [⟨tg, it, ifs, 0⟩] => _
                    | _ => False) := hd
                  split at hd
                  · rename_i e; cases e; exact ha rfl
                  · exact hd
            | [], key, hq =>
              exact PS.no fun E σ H h => by
                obtain ⟨ρ, kr, hd⟩ := key E σ H h
                exact hd
            | g1 :: g2 :: gs, key, hq =>
              exact PS.no fun E σ H h => by
                obtain ⟨ρ, kr, hd⟩ := key E σ H h
                have hd : (match (g1 :: g2 :: gs : List Comprehension) with
                  | [⟨tg, it, ifs, 0⟩] => _
                  | _ => False) := hd
                split at hd
                · rename_i e; cases e
                · exact hd
      | SetComp a1 a2 a3 a4 =>
        exact PS.no fun E σ H ⟨F0, p0, F, ρ, K, si, hd, eo⟩ => by
          have hd : dAsgN (dE n T xk) T sf x (.SetComp a1 a2 a3 a4) ρ K := hd
          unfold dAsgN at hd
          rw [hl] at hd
          dsimp only [isDC] at hd
          cases n <;> (unfold dE at hd; exact hd)
      | DictComp a1 a2 a3 a4 a5 =>
        exact PS.no fun E σ H ⟨F0, p0, F, ρ, K, si, hd, eo⟩ => by
          have hd : dAsgN (dE n T xk) T sf x (.DictComp a1 a2 a3 a4 a5) ρ K := hd
          unfold dAsgN at hd
          rw [hl] at hd
          exact hd
      | _ => exact absurd (sw_none rfl _ _ _) hsw
end
end DL

set_option Elab.async false
set_option linter.all false
set_option maxRecDepth 100000
set_option maxHeartbeats 1000000
/-! DLt: a, b, .. = x, y, .. -/
namespace DL
open PySem PySem.Spec PyProof.Rows L2

def setAll : L2.St → List Nat → List V → L2.St
  | σ, i :: is, v :: vs => setAll (σ.set i (some v)) is vs
  | σ, _, _ => σ
theorem setAll_comm {i : Nat} {v : V} : ∀ {is : List Nat} {vs : List V} {σ : L2.St}, i ∉ is → setAll (σ.set i (some v)) is vs = (setAll σ is vs).set i (some v)
  | [], vs, σ, _ => by cases vs <;> rfl
  | j :: is, [], σ, _ => rfl
  | j :: is, w :: vs, σ, h => by
    have hj : i ≠ j := fun e => h (by rw [e]; exact List.mem_cons_self ..)
    show setAll ((σ.set i (some v)).set j (some w)) is vs = (setAll (σ.set j (some w)) is vs).set i (some v)
    rw [List.set_comm _ _ hj]
    exact setAll_comm fun e => h (List.mem_cons_of_mem _ e)
theorem setAll_app : ∀ {is js : List Nat} {vs ws : List V} {σ : L2.St}, is.length = vs.length → setAll σ (is ++ js) (vs ++ ws) = setAll (setAll σ is vs) js ws
  | [], js, [], ws, σ, _ => rfl
  | [], js, _ :: _, ws, σ, h => by cases h
  | _ :: _, js, [], ws, σ, h => by cases h
  | i :: is, js, v :: vs, ws, σ, h => by
    show setAll (σ.set i (some v)) (is ++ js) (vs ++ ws) = setAll (setAll (σ.set i (some v)) is vs) js ws
    exact setAll_app (by simpa using h)
theorem setAll_rev : ∀ {is : List Nat} {vs : List V} {σ : L2.St}, is.length = vs.length → is.Nodup → setAll σ is.reverse vs.reverse = setAll σ is vs
  | [], [], σ, _, _ => rfl
  | [], _ :: _, σ, h, _ => by cases h
  | _ :: _, [], σ, h, _ => by cases h
  | i :: is, v :: vs, σ, h, nd => by
    have nd := List.nodup_cons.mp nd
    have h : is.length = vs.length := by simpa using h
    rw [List.reverse_cons, List.reverse_cons, setAll_app (by simp [h]), setAll_rev h nd.2]
    show (setAll σ is vs).set i (some v) = setAll (σ.set i (some v)) is vs
    rw [setAll_comm nd.1]

section
variable {X : Cx}
/-- a store into a slot -/
def Store (X : Cx) (t : Value → Sem Unit) (i : Nat) : Prop := ∀ (pins : List (Addr × Obj)) (s : Shared) (σ : L2.St) (H : Hp) (v : V) (u : Value) (Q : Unit → Shared → Prop), Inv X pins σ H s → RelV v u → (∀ s', Inv X pins (σ.set i (some v)) H s' → Q () s') → wpAny (model X.prog X.w) X.A (t u) Q X.xe s
def Stores (X : Cx) : List (Value → Sem Unit) → List Nat → Prop
  | [], [] => True
  | t :: ts, i :: is => Store X t i ∧ Stores X ts is
  | _, _ => False
theorem Stores.app : ∀ {ts us : List (Value → Sem Unit)} {is js : List Nat}, Stores X ts is → Stores X us js → Stores X (ts ++ us) (is ++ js)
  | [], _, [], _, _, h => h
  | [], _, _ :: _, _, h, _ => h.elim
  | _ :: _, _, [], _, h, _ => h.elim
  | _ :: ts, us, _ :: is, js, h, g => ⟨h.1, Stores.app h.2 g⟩
theorem Stores.rev : ∀ {ts : List (Value → Sem Unit)} {is : List Nat}, Stores X ts is → Stores X ts.reverse is.reverse
  | [], [], _ => True.intro
  | [], _ :: _, h => h.elim
  | _ :: _, [], h => h.elim
  | _ :: ts, _ :: is, h => by
    rw [List.reverse_cons, List.reverse_cons]
    exact (Stores.rev h.2).app ⟨h.1, True.intro⟩
theorem Stores.len : ∀ {ts : List (Value → Sem Unit)} {is : List Nat}, Stores X ts is → ts.length = is.length
  | [], [], _ => rfl
  | [], _ :: _, h => h.elim
  | _ :: _, [], h => h.elim
  | _ :: ts, _ :: is, h => by simp [Stores.len h.2]
theorem Stores.run {H : Hp} {pins : List (Addr × Obj)} : ∀ {ts : List (Value → Sem Unit)} {is : List Nat} {us : List Value} {vs : List V} {σ : L2.St} {s : Shared} {Q : Unit → Shared → Prop}, Stores X ts is → Vals vs us → vs.length = is.length → Inv X pins σ H s →
    (∀ s', Inv X pins (setAll σ is vs) H s' → Q () s') → wpAny (model X.prog X.w) X.A (assignInOrder ts us) Q X.xe s
  | [], [], us, vs, σ, s, Q, _, _, hl, I, h => by
    cases vs with
    | nil => exact assignInOrder_nil (h s I)
    | cons _ _ => cases hl
  | [], _ :: _, _, _, _, _, _, h, _, _, _, _ => h.elim
  | _ :: _, [], _, _, _, _, _, h, _, _, _, _ => h.elim
  | t :: ts, i :: is, us, vs, σ, s, Q, hs, hv, hl, I, h => by
    cases hv with
    | nil => cases hl
    | cons r rr =>
      refine assignInOrder_cons (hs.1 pins s σ H _ _ _ I r fun s1 I1 => ?_)
      exact Stores.run hs.2 rr (by simpa using hl) I1 h
def tMany (is : List Nat) (ta : TA) : TS := fun D σ H => ta σ H fun vs H1 => vs.length = is.length ∧ D.nx (setAll σ is vs) H1
theorem ps_many {es vs : List Expr} {is : List Nat} {xs : List Str} {ta : TA} {pt pos pt2 : Pos} {kt k2 : Nat} (hc : X.calm = true) (hS : Stores X ((assignEach es X.env).map (·.2)) is) (hS2 : Stores X (xs.map fun x => bindName X.env x) is) (hnd : is.Nodup) (hsz : is.length ≤ 100)
    (ha : PA X vs ta) (hst : (assignEach es X.env).findIdx? (·.1) = none)
    (hw : swappedStores [.Tuple es kt pt] (.Tuple vs k2 pt2) X.env = pure none ∨ swappedStores [.Tuple es kt pt] (.Tuple vs k2 pt2) X.env = pure (some xs)) :
    PS X (.Assign [.Tuple es kt pt] (.Tuple vs k2 pt2) pos) (tMany is ta) := by
  refine ⟨fun pins s σ H D I h => ?_⟩
  rw [exec_Assign_arm]
  refine wpAny_bind (wpAny_standAt ?_)
  have hs : swapsWithSole [.Tuple es kt pt] (.Tuple vs k2 pt2) pos.line X.env = pure false := rfl
  rw [hs]
  refine wpAny_bind (wpAny_pure ?_)
  rw [if_neg (by decide)]
  refine wpAny_bind (Tuple_ (thn (ha.run _ pins s σ H _ I h) fun us s1 ⟨ws, H1, I1, r1, q1⟩ => ?_))
  obtain ⟨hl, q1⟩ := q1
  have hul : us.length = is.length := by rw [← hl]; exact r1.length.symm
  refine wpAny_newObj_type ?_ (by show us.toArray.size ≤ sizeLine; have := sizeLine_eq; simp; omega)
  have I2 : Inv X pins σ H1 { s1 with heap := s1.heap.push { cls := .type "tuple", data := .seq us.toArray } } := I1.kept (t' := s1.toks) fun b o e => Heap.get?_push_of_some _ e
  have hT : IsTup (s1.heap.push { cls := .type "tuple", data := .seq us.toArray }) s1.heap.objs.size us.toArray := IsTup.new s1.heap _
  rcases hw with hw | hw
  · rw [hw]
    refine wpAny_bind (wpAny_pure ?_)
    show wpAny (model X.prog X.w) X.A (do assignAll (.ref s1.heap.objs.size) [assign (.Tuple es kt pt) X.env]; pure Flow.next) _ _ _
    refine wpAny_bind ?_
    show wpAny (model X.prog X.w) X.A (assign (.Tuple es kt pt) X.env (.ref s1.heap.objs.size)) _ _ _
    have hel : (assignEach es X.env).length = is.length := by have := hS.len; rw [List.length_map] at this; exact this
    refine assign_Tuple_tuple (I.ok.hd hc) hT (by rw [hel]; simp [hul]) hst fun h' hx => ?_
    have I3 := I2.kept (h' := h') (t' := s1.toks) fun b o e => hx b o (Nat.ne_of_lt (Heap.lt_size e)) e
    refine hS.run (vs := ws) (by simpa using r1) hl I3 fun s' I' => wpAny_pure ⟨_, H1, I', q1⟩
  · rw [hw]
    refine wpAny_bind (wpAny_pure ?_)
    show wpAny (model X.prog X.w) X.A (do rule "assign.swapped-stores"; let items ← unpackItems (.ref s1.heap.objs.size) xs.length none; assignInOrder (xs.reverse.map fun n => bindName X.env n) items.reverse; pure Flow.next) _ _ _
    have hxl : xs.length = us.toArray.size := by have := hS2.len; rw [List.length_map] at this; rw [this]; simp [hul]
    rw [hxl]
    refine wpAny_bind (wpAny_rule (wpAny_bind (unpackItems_tuple (items := us.toArray) (I.ok.hd hc) hT fun h' hx' => ?_)))
    have I3 := I2.kept (h' := h') (t' := s1.toks) fun b o e => hx' b o (Nat.ne_of_lt (Heap.lt_size e)) e
    have hR := hS2.rev
    rw [← List.map_reverse] at hR
    refine wpAny_bind (hR.run (vs := ws.reverse) (us := us.toArray.toList.reverse) ?_ (by simp [hl]) I3 fun s' I' => wpAny_pure ?_)
    · have : ∀ {a : List V} {b : List Value}, Vals a b → Vals a.reverse b.reverse := fun {a b} h => by
        induction h with
        | nil => exact .nil
        | cons r rr ih =>
          rw [List.reverse_cons, List.reverse_cons]
          exact ih.append (.cons r .nil)
      simpa using this r1
    · rw [setAll_rev hl.symm hnd] at I'
      exact ⟨_, H1, I', q1⟩
end
/-! ### from the right or from the left -/
theorem fm_names {env : Env} {l : Nat} : ∀ {es : List Expr} {xs : List Str}, nmsOf es = some xs →
    (es.filterMap fun | .Name id pos => if env.kindOf id == some .local && pos.line == l then some id else none | _ => none) = xs ∨ (es.filterMap fun | .Name id pos => if env.kindOf id == some .local && pos.line == l then some id else none | _ => none).length < es.length
  | [], xs, h => by cases h; exact .inl rfl
  | e :: es, xs, h => by
    cases e with
    | Name x p =>
      have h : (nmsOf es).map (x :: ·) = some xs := h
      cases h2 : nmsOf es with
      | none => rw [h2] at h; cases h
      | some ys =>
        rw [h2] at h; cases h
        have ih := fm_names (env := env) (l := l) h2
        by_cases hc : (env.kindOf x == some .local && p.line == l) = true
        · rw [List.filterMap_cons]
          dsimp only
          rw [if_pos hc]
          dsimp only
          rcases ih with ih | ih
          · exact .inl (by rw [ih])
          · exact .inr (by simpa using ih)
        · right
          rw [List.filterMap_cons]
          dsimp only
          rw [if_neg hc]
          dsimp only
          have : ∀ l : List Expr, ∀ f : Expr → Option Str, (l.filterMap f).length ≤ l.length := fun l f => List.length_filterMap_le ..
          exact Nat.lt_succ_of_le (this _ _)
    | _ => cases h
theorem sw_two {es vs : List Expr} {xs : List Str} {kt k2 : Nat} {pt pt2 : Pos} {env : Env} (hx : nmsOf es = some xs) (hc : (vs.all (foldedForSure 8) || !vs.all (constantsAlone 8)) = true) :
    swappedStores [.Tuple es kt pt] (.Tuple vs k2 pt2) env = pure none ∨ swappedStores [.Tuple es kt pt] (.Tuple vs k2 pt2) env = pure (some xs) := by
  unfold swappedStores
  dsimp only
  split
  · exact .inl rfl
  split
  · exact .inl rfl
  split
  · exact .inl rfl
  rename_i h3
  split
  · exact .inl rfl
  rename_i h4
  split
  · rename_i h5
    rw [h5] at hc
    simp at hc h4
    obtain ⟨a, b, c⟩ := h4
    have := hc a b
    rw [c] at this; cases this
  · right
    rcases fm_names (env := env) (l := (es.head?.map (·.pos.line)).getD 0) hx with e | e
    · exact congrArg (fun z => pure (some z)) e
    · exact absurd (Bool.or_eq_true_iff.mpr (.inl (bne_iff_ne.mpr (Nat.ne_of_lt e)))) h3
section
variable {κ : KB} {k : Nat} {X : Cx} {T : Tab} {B : Hp} {xk : DX → Prop} {n : Nat} {sf : Bool}
theorem slots_ok (C : CtxOk κ k X T B xk) : ∀ {es : List Expr} {xs : List Str} {is : List Nat}, nmsOf es = some xs → slotsOf T sf xs = some is →
    Stores X ((assignEach es X.env).map (·.2)) is ∧ Stores X (xs.map fun x => bindName X.env x) is ∧ is.Nodup ∧ (sf = true → ∀ i ∈ is, i ≠ 0) ∧ (assignEach es X.env).findIdx? (·.1) = none ∧ is.length = es.length
  | [], xs, is, h, h2 => by
    cases h
    cases h2
    exact ⟨True.intro, True.intro, .nil, fun _ i hi => (by cases hi), rfl, rfl⟩
  | e :: es, xs, is, h, h2 => by
    cases e with
    | Name x p =>
      have h : (nmsOf es).map (x :: ·) = some xs := h
      cases h3 : nmsOf es with
      | none => rw [h3] at h; cases h
      | some ys =>
        rw [h3] at h; cases h
        unfold slotsOf at h2
        cases e1 : locSlot T sf x with
        | none => rw [e1] at h2; cases h2
        | some i =>
          cases e2 : slotsOf T sf ys with
          | none => rw [e1, e2] at h2; cases h2
          | some js =>
            rw [e1, e2] at h2
            dsimp only at h2
            split at h2
            · cases h2
            · rename_i hn
              cases h2
              obtain ⟨a1, a2, a3, a4, a5, a6⟩ := slots_ok C h3 e2
              obtain ⟨hi, hl, hfn, h0⟩ := loc_inv C e1
              have hN : X.N.Nodup := by rw [C.hN]; exact C.nd
              refine ⟨⟨fun pins s σ H v u Q I r h => ?_, a1⟩, ⟨fun pins s σ H v u Q I r h => ?_, a2⟩, ?_, fun z j hj => ?_, ?_, by simp [a6]⟩
              · exact wpAny_assign_Name (store_ok I hN hi hl r (fun s' I' => h s' I') hfn)
              · exact wpAny_bindName (store_ok I hN hi hl r (fun s' I' => h s' I') hfn)
              · exact List.nodup_cons.mpr ⟨by simpa using hn, a3⟩
              · rcases List.mem_cons.mp hj with rfl | hj
                · exact h0 z
                · exact a4 z j hj
              · show List.findIdx? _ ((false, _) :: assignEach es X.env) = none
                rw [List.findIdx?_cons]
                simp [a5]
    | _ => cases h
/-- results at rest, the new ones all unlike -/
def newIn : List R → List V → V → Prop
  | .new _ :: rs, v :: vs, w => w = v ∨ newIn rs vs w
  | _ :: rs, _ :: vs, w => newIn rs vs w
  | _, _, _ => False
def VNs (κ : KB) (B F H : Hp) (σ : L2.St) (ρ : Env') : List R → List V → Prop
  | [], [] => True
  | r :: rs, v :: vs => VN κ B F H σ ρ r v ∧ VNs κ B F H σ ρ rs vs ∧ (∀ d, r = .new d → ∀ w, newIn rs vs w → v ≠ w)
  | _, _ => False
variable {F H F' H' : Hp} {σ : L2.St} {ρ ρ' : Env'}
theorem VNs.len : ∀ {rs : List R} {vs : List V}, VNs κ B F H σ ρ rs vs → rs.length = vs.length
  | [], [], _ => rfl
  | [], _ :: _, h => h.elim
  | _ :: _, [], h => h.elim
  | r :: rs, v :: vs, h => by simp [h.2.1.len]
theorem VNs.put {r : R} {v : V} {i : Nat} (h : VN κ B F H σ ρ r v) : ∀ {rs : List R} {vs : List V}, VNs κ B F H σ ρ rs vs → (∀ d, r = .new d → ∀ w, newIn rs vs w → v ≠ w) → VNs κ B F H (σ.set i (some v)) (putR ρ i r) rs vs
  | [], [], _, _ => True.intro
  | [], _ :: _, h, _ => h.elim
  | _ :: _, [], h, _ => h.elim
  | r' :: rs, w :: ws, g, hd => by
    refine ⟨h.put g.1 fun d d' e e' => ?_, VNs.put h g.2.1 fun d e x hx => hd d e x ?_, g.2.2⟩
    · subst e'
      exact hd d e w (.inl rfl)
    · cases r' with
      | new _ => exact .inr hx
      | val _ => exact hx
      | slot _ => exact hx
theorem put_all : ∀ {is : List Nat} {rs : List R} {vs : List V} {σ : L2.St} {ρ : Env'}, EnvOk κ B F H σ ρ → VNs κ B F H σ ρ rs vs → EnvOk κ B F H (setAll σ is vs) (putRs ρ is rs)
  | [], [], [], σ, ρ, e, _ => e
  | [], _ :: _, [], _, _, _, h => h.elim
  | [], [], _ :: _, _, _, _, h => h.elim
  | [], _ :: _, _ :: _, σ, ρ, e, _ => e
  | _ :: _, [], [], σ, ρ, e, _ => e
  | _ :: _, [], _ :: _, _, _, _, h => h.elim
  | _ :: _, _ :: _, [], _, _, _, h => h.elim
  | i :: is, r :: rs, v :: vs, σ, ρ, e, h => by
    show EnvOk κ B F H (setAll (σ.set i (some v)) is vs) (putRs (putR ρ i r) is rs)
    exact put_all (put_ok e h.1) (VNs.put h.1 h.2.1 h.2.2)
theorem setAll_0 : ∀ {is : List Nat} {vs : List V} {σ : L2.St}, (∀ i ∈ is, i ≠ 0) → (setAll σ is vs)[0]? = σ[0]?
  | [], vs, σ, _ => by cases vs <;> rfl
  | _ :: _, [], σ, _ => rfl
  | i :: is, v :: vs, σ, h => by
    show (setAll (σ.set i (some v)) is vs)[0]? = _
    rw [setAll_0 fun j hj => h j (List.mem_cons_of_mem _ hj), List.getElem?_set_ne (h i (List.mem_cons_self ..))]
def tUns (κ : KB) (B : Hp) (f : Expr → Env' → KR → Prop) : List Expr → TA
  | [] => tNil
  | e :: es => tCons (tE κ B f e) (tUns κ B f es)
theorem pa_uns (hf : ∀ e, PE X e (tE κ B (dE n T xk) e)) : ∀ {es : List Expr}, es.any isStar = false → PA X es (tUns κ B (dE n T xk) es)
  | [], _ => pa_nil
  | e :: es, h => by
    rw [List.any_cons, Bool.or_eq_false_iff] at h
    exact pa_cons (hf e) (pa_uns hf h.2) (star_cons h.1 es X.env)
theorem VNs.post (p : Post κ B F H σ ρ F' H' ρ') : ∀ {rs : List R} {vs : List V}, VNs κ B F H σ ρ rs vs → VNs κ B F' H' σ ρ' rs vs
  | [], [], _ => True.intro
  | [], _ :: _, h => h.elim
  | _ :: _, [], h => h.elim
  | r :: rs, v :: vs, h => ⟨h.1.post p, VNs.post p h.2.1, h.2.2⟩
theorem uns_imp : ∀ {es : List Expr} {F H : Hp} {ρ : Env'} {kk : KRs} {Q : List V → Hp → Prop}, EnvOk κ B F H σ ρ → dUns (dE n T xk) es ρ kk →
    (∀ rs vs ρ' F' H', kk rs ρ' → Post κ B F H σ ρ F' H' ρ' → VNs κ B F' H' σ ρ' rs vs → rs.length = es.length → (∀ q, H q ≠ none → ∀ w, newIn rs vs w → w ≠ .ref q) → Q vs H') → tUns κ B (dE n T xk) es σ H Q
  | [], F, H, ρ, kk, Q, en, hd, hq => hq [] [] ρ F H hd (.refl en) True.intro rfl fun _ _ _ h => by cases h
  | e :: es, F, H, ρ, kk, Q, en, hd, hq => by
    refine ⟨F, ρ, _, en, hd, fun r ρ1 v F1 H1 h1 p1 o1 => ?_⟩
    obtain ⟨r', ρ1', F1', hk, p1', vn, dis⟩ := unslot_ok o1 p1 h1
    refine uns_imp p1'.env hk fun rs vs ρ2 F2 H2 h2 p2 vns hl fr => ?_
    refine hq (r' :: rs) (v :: vs) ρ2 F2 H2 h2 (p1'.trans p2) ⟨vn.post p2, vns, fun d e w hw => ?_⟩ (by simp [hl]) fun q hqn w hw => ?_
    · subst e
      obtain ⟨q, rfl, hq⟩ := vn.there
      exact fun z => fr q hq w hw z.symm
    · have rest : ∀ w, newIn rs vs w → w ≠ .ref q := fun w hw => by
        refine fr q ?_ w hw
        cases e : H q with
        | none => exact absurd e hqn
        | some o =>
          obtain ⟨o', ho⟩ := p1'.sty q o e
          rw [ho]; simp
      cases r' with
      | new d =>
        rcases hw with rfl | hw
        · exact dis q hqn ⟨d, rfl⟩
        · exact rest w hw
      | val d => exact rest w hw
      | slot d => exact rest w hw
end
end DL

set_option Elab.async false
set_option linter.all false
set_option maxRecDepth 100000
set_option maxHeartbeats 1000000
/-! DLy: expressions of an except suite. -/
namespace DL
open PySem PySem.Spec PyProof.Rows L2

/-! ### the exception, asked -/
theorem kitx_excD {K : PySem.W.Frag} {x D : Addr} {ox od : Obj} (C : ExcC K D) : PySem.W.KitX K (.ref x) (.ref D) (fun h => PySem.W.InstAt h x ox D (some od)) where
  ty := fun _ _ _ I => I.type
  it := fun _ _ X _ => by
    obtain ⟨cdD, hcD, _⟩ := PySem.W.any_some C.hd
    unfold PySem.W.clsIn at hcD
    split at hcD
    · rename_i c' d' cd' sl' ho
      intro A' Q' E' s' k q
      unfold isType loadHead
      exact wpAny_bind (wpAny_loadPart (k _ _ (X _ _ ho)) (wpAny_pure q))
    · cases hcD
  ne := fun h tp dd its n sl X htp => by
    obtain ⟨cdD, hcD, _⟩ := PySem.W.any_some C.hd
    refine Bool.eq_false_iff.mpr fun q => ?_
    have e : D = tp := Value.ref.inj (beq_iff_eq.mp q)
    subst e
    unfold PySem.W.clsIn at hcD
    split at hcD
    · rename_i c' d' cd' sl' ho
      have z := (X _ _ ho).symm.trans htp
      cases z
    · cases hcD
  ca := fun {prog w A E Q s} X I h => by
    have hf : PySem.W.findObj K D (some od) "__class__" = some (.bind (.builtin "getset_descriptor.__get__") (.builtin "object.__class__")) := PySem.W.findObj_data (by obtain ⟨cd, hc, _⟩ := PySem.W.any_some C.hd; rw [hc]; rfl) C.ha C.hn C.ht
    obtain ⟨hp, g, d, t, os⟩ := s
    have L0 := I.type (M := model prog w)
    have L1 := PySem.W.looks_findIn (M := model prog w) X C.hg
    have L2' := PySem.W.looks_findIn (M := model prog w) X C.hk
    have L3 := PySem.W.looks_find (M := model prog w) X I hf
    have sub : PySem.W.Looks (model prog w) hp (isInstance (.ref x) (.type "BaseException")) true := L0.andThen (PySem.W.looks_subIn X C.hs)
    have hx0 : (false && onTheHeap (Value.builtin "BaseException.__getattribute__")) = false := rfl
    have hx2 : (Value.builtin "BaseException.__getattribute__" == Value.builtin "object.__getattribute__") = false := by decide +kernel
    have hx1 : (onTheHeap (Value.ref D) && Value.builtin "BaseException.__getattribute__" == Value.builtin "object.__getattribute__") = false := by rw [hx2]; rfl
    unfold getAttr? getAttrBy? getAttrBy
    refine wpAny_bind (wpAny_mkText (wpAny_bind (wpAny_attempt (wpAny_holding (wpAny_bind (L0.at (wpAny_bind (L1.at ?_))))))))
    show wpAny _ _ (if (onTheHeap (Value.ref D) && Value.builtin "BaseException.__getattribute__" == Value.builtin "object.__getattribute__") = true then _ else _) _ _ _
    rw [hx1, if_neg Bool.false_ne_true]
    unfold getAttrByItsOwn hookBefore
    refine wpAny_bind ?_
    rw [if_pos (show onTheHeap (Value.ref D) = true from rfl)]
    refine L2'.at ?_
    refine wpAny_bind (wpAny_attempt (wpAny_holding ?_))
    unfold callGetattribute
    rw [hx0, if_neg Bool.false_ne_true]
    unfold boundAndCalled
    rw [PySem.F.excAttr_ValueError.ga.bind (.ref x)]
    refine wpAny_bind (wpAny_pure ?_)
    show wpAny _ _ (call (.builtin "BaseException.__getattribute__") [.ref x, .str "__class__" t]) _ _ _
    refine wpAny_call (codeAny_call_builtin PySem.F.excAttr_ValueError.ga.plain PySem.F.entry_bexc_ga ?_)
    refine @PySem.W.check_slot (model prog w) _ _ ⟨hp, g, d, t + 1, os⟩ "BaseException.__getattribute__" "BaseException" "__getattribute__" (.ref x) [.str "__class__" t] [] _ (by decide +kernel) (by decide +kernel) sub (PySem.F.args_bexc_ga (.ref x) (.str "__class__" t)) ?_
    unfold Builtin.«object.__getattribute__»
    refine wpAny_bind (wpAny_of_eq (a := ((Value.ref x : Value), [Value.str "__class__" t])) (by first | rfl | (simp only [slotArgs]; rfl)) ?_)
    refine wpAny_bind (wpAny_pure (wpAny_bind (L0.at (wpAny_bind (L3.at ?_)))))
    show wpAny _ _ (holding [Value.builtin "object.__class__"] (call (.builtin "getset_descriptor.__get__") [.builtin "object.__class__", .ref x, .ref D]) >>= ret) _ _ _
    refine wpAny_bind (wpAny_holding (wpAny_call (PySem.W.class_get (s := ⟨hp, g, d, t + 1, os⟩) (ox := ox) (od := some od) X I C.hm ?_)))
    refine wpAny_pure ?_
    show wpAny _ _ (handedOut (.ref D)) _ _ _
    rw [PySem.W.handedOut_of (v := .ref D) rfl]
    first
      | exact wpAny_pure (wpAny_pure h)
      | exact wpAny_pure h
      | exact wpAny_pure (wpAny_bind (wpAny_pure (wpAny_pure h)))
/-- the exception a of the class D, with its dict -/
def ExAt (H : Hp) (D : Addr) (d : Option Addr) : Prop := d = none ∨ ∃ dd fs, d = some dd ∧ H dd = some (.xd fs)
section
variable {Y : Cx} {a D : Addr} {oe : Obj} {cls : Value} {d : Option Addr}
/-- isinstance(e, c) -/
def rIsD (K : PySem.W.Frag) (D a : Addr) (d : Option Addr) : List V → Hp → VK → Prop := fun xs H Q => ∃ (c : V) (cv : Value) (b : Bool), xs = [.ref a, c] ∧ ExAt H D d ∧ (∀ u, RelV c u → u = cv) ∧ PySem.W.kitOne K (.ref D) cv = some b ∧ Q (.bl b) H
theorem call_isD (C : ExcC Y.K D) (hp : (a, oe) ∈ Y.pn) (hz : Zc (.ref D) d oe) (hf : ∃ vs, oe.data = .fields vs) : CallR Y (.builtin "isinstance") (rIsD Y.K D a d) := by
  intro pins s σ H xs us Q I r h
  obtain ⟨c, cv, b, rfl, ex, hcv, e, q⟩ := h
  cases r with
  | cons rx rr =>
    cases rr with
    | cons rt rr =>
      cases rr
      cases rx
      have ec := hcv _ rt
      subst ec
      obtain ⟨hget, _⟩ := I.pin (a, oe) (List.mem_append.mpr (.inl hp))
      obtain ⟨vs, hv⟩ := hf
      rcases ex with rfl | ⟨dd, fs, rfl, ed⟩
      · have J : PySem.W.InstAt s.heap a oe D none := by
          obtain ⟨oc, od, oda, osl⟩ := oe
          obtain ⟨h1, h2⟩ := hz
          dsimp only at h1 h2 hv
          subst h1 h2 hv
          exact ⟨hget, rfl, rfl, trivial⟩
        exact PySem.W.kia_one (PySem.W.handS_kitx_exc C.hg C.hk C.hs C.hd C.ha C.hn C.ht C.hm) I.kIn J e (fun z => nomatch z) fun tk => ⟨.bl b, H, I.kept (t' := tk) fun _ _ z => z, rfl, q⟩
      · have hx : ObjOk Y.prog Y.w H s.heap dd (.xd fs) := I.hok dd _ ed
        obtain ⟨mA, hns, hr⟩ := hx
        obtain ⟨od, ho, hl⟩ := lookIn_ns hns
        have J : PySem.W.InstAt s.heap a oe D (some od) := ⟨hget, hz.1, by unfold PySem.W.notCls; rw [hv] <;> rfl, by rw [hz.2]; exact ho⟩
        exact PySem.W.kia_one (kitx_excD C) I.kIn J e (fun z => nomatch z) fun tk => ⟨.bl b, H, I.kept (t' := tk) fun _ _ z => z, rfl, q⟩
/-- e.f -/
theorem pe_xfG {te : TE} {e : Expr} {pos : Pos} {n : Str} {C : Addr} (T : XfC Y.K C) (hno : PySem.W.findIn Y.K (.ref C) n = some none) (hp : (a, oe) ∈ Y.pn)
    (hz : Zc cls d oe) (hf : ∃ vs, oe.data = .fields vs) (he : PE Y e te) (hb : attributeBase e n Y.env (eval e Y.env) = eval e Y.env) : PE Y (.Attribute e n pos) (tXf a cls d C n te) := by
  refine ⟨fun pins s σ H Q I h => ?_⟩
  refine attr_of hb (thn (he.run pins s σ H _ I h) fun u s1 hh => ?_)
  obtain ⟨x, H1, I1, rx, ex, ec, dd, fs, v, ed, ea, l, q⟩ := hh
  subst ex
  obtain rfl : u = Value.ref a := rx
  subst ec
  subst ed
  obtain ⟨ha, _⟩ := I1.pin (a, oe) (List.mem_append_left _ hp)
  obtain ⟨vs, hd⟩ := hf
  have hx : ObjOk Y.prog Y.w H1 s1.heap dd (.xd fs) := I1.hok dd _ ea
  obtain ⟨mA, hns, hr⟩ := hx
  obtain ⟨od, ho, hl⟩ := lookIn_ns hns
  obtain ⟨u, hu, ru⟩ := RelO.some_of (v := v) (o := mA n) (by rw [← l]; exact hr n)
  have J : PySem.W.InstAt s1.heap a oe C (some od) := ⟨ha, hz.1, by unfold PySem.W.notCls; rw [hd] <;> rfl, by rw [hz.2]; exact ho⟩
  exact HandSPX.exc_get I1.kIn J T.ga T.gg T.exC (PySem.W.findObj_own T.hdC hno rfl (by rw [hl, hu])) (handed_of ru) ⟨v, H1, I1.tok _, ru, q⟩
end

/-! ### flat values -/
def vF : D → V
  | .bl b => .bl b
  | .int i => .int i
  | .str x => .str x
  | _ => .non
theorem rep_flat {κ : KB} {F : Hp} {d : D} {v : V} (h : flatD d = true) (r : Rep κ F d v) : v = vF d := by
  cases d <;> first | exact r | cases h
theorem flat_rep {κ : KB} {F : Hp} {d : D} (h : flatD d = true) : Rep κ F d (vF d) := by
  cases d <;> first | rfl | cases h
theorem constD_flat {c : Const} {d : D} (h : constD c = some d) : flatD d = true := by
  cases c <;> cases h <;> rfl
theorem boolO_inv {o : Option D} {b : Bool} (h : boolO o = some b) : o = some (.bl b) := by
  unfold boolO at h
  split at h
  · cases h; rfl
  · cases h
theorem mAdd_inv {o o' : Option D} {d : D} (h : mAdd o o' = some d) : (∃ i j, o = some (.int i) ∧ o' = some (.int j) ∧ d = .int (i + j)) ∨ (∃ u v, o = some (.str u) ∧ o' = some (.str v) ∧ u.length + v.length ≤ sizeLine ∧ d = .str (u ++ v)) := by
  unfold mAdd at h
  split at h
  · cases h; exact .inl ⟨_, _, rfl, rfl, rfl⟩
  · split at h
    · rename_i hl
      cases h; exact .inr ⟨_, _, rfl, rfl, hl, rfl⟩
    · cases h
  · cases h
theorem mIsi_inv {T : Tab} {en : Option Str} {x : DX} {g y c : Str} {d : D} (h : mIsi T en x g y c = some d) : g = ("isinstance" : Str) ∧ T.nm.lookup g = some .globalImplicit ∧ isBlt (T.g.lookup g) = true ∧ en = some y ∧ ∃ t b, clsT T c = some t ∧ isxF x.c t T.fx = some b ∧ d = .bl b := by
  unfold mIsi at h
  split at h
  · rename_i hc
    obtain ⟨h1, h2, h3, h4⟩ := hc
    refine ⟨h1, h2, h3, h4, ?_⟩
    split at h
    · rename_i t ht
      obtain ⟨b, e, rfl⟩ := Option.map_eq_some_iff.mp h
      exact ⟨t, b, ht, e, rfl⟩
    · cases h
  · cases h
theorem mAttr_inv {T : Tab} {en : Option Str} {x : DX} {y f : Str} {d : D} (h : mAttr T en x y f = some d) : en = some y ∧ T.fx.contains (.xat x.c f) = true ∧ (x.ns.zip x.ds).lookup f = some d ∧ flatD d = true := by
  unfold mAttr at h
  split at h
  · rename_i hc
    refine ⟨hc.1, hc.2, ?_⟩
    split at h
    · rename_i d' hd
      split at h
      · rename_i hf
        cases h; exact ⟨hd, hf⟩
      · cases h
    · cases h
  · cases h
theorem mBoolV_flat {f : Expr → Option D} (hf : ∀ e d, f e = some d → flatD d = true) {op : BoolOp} : ∀ {vs : List Expr} {d : D}, mBoolV f op vs = some d → flatD d = true
  | [], _, h => by cases h
  | [e], _, h => hf e _ h
  | e :: e2 :: es, d, h => by
    unfold mBoolV at h
    split at h
    · split at h
      · split at h
        · exact mBoolV_flat hf h
        · cases h; rfl
      · split at h
        · cases h; rfl
        · exact mBoolV_flat hf h
    · cases h
theorem mE_flat {T : Tab} {en : Option Str} {x : DX} : ∀ (n : Nat) (e : Expr) (d : D), mE T en x n e = some d → flatD d = true
  | 0, _, _, h => by cases h
  | n + 1, e, d, h => by
    unfold mE at h
    split at h
    · exact constD_flat h
    · exact (mAttr_inv h).2.2.2
    · obtain ⟨_, _, _, _, t, b, _, _, rfl⟩ := mIsi_inv h; rfl
    · exact mBoolV_flat (fun e d h => mE_flat n e d h) h
    · obtain ⟨b, _, rfl⟩ := Option.map_eq_some_iff.mp h; rfl
    · split at h
      · split at h
        · exact mE_flat n _ d h
        · exact mE_flat n _ d h
      · cases h
    · rcases mAdd_inv h with ⟨i, j, _, _, rfl⟩ | ⟨u, v, _, _, _, rfl⟩ <;> rfl
    · cases h
theorem mE_call {T : Tab} {en : Option Str} {x : DX} {n : Nat} {g : Expr} {args : List Expr} {kws : List Keyword} {pos : Pos} {d : D} (h : mE T en x (n + 1) (.Call g args kws pos) = some d) : ∃ gn p y p1 c p2, g = .Name gn p ∧ args = [.Name y p1, .Name c p2] ∧ kws = [] := by
  unfold mE at h
  split at h
  all_goals first
    | (rename_i heq; cases heq; exact ⟨_, _, _, _, _, _, rfl, rfl, rfl⟩)
    | (rename_i heq; cases heq; done)
    | (cases h; done)
theorem mT_call {T : Tab} {en : Option Str} {x : DX} {n : Nat} {g : Expr} {args : List Expr} {kws : List Keyword} {pos : Pos} {d : Bool} (h : mT T en x (n + 1) (.Call g args kws pos) = some d) : ∃ gn p y p1 c p2, g = .Name gn p ∧ args = [.Name y p1, .Name c p2] ∧ kws = [] := by
  unfold mT at h
  split at h
  all_goals first
    | (rename_i heq; cases heq; exact ⟨_, _, _, _, _, _, rfl, rfl, rfl⟩)
    | (rename_i heq; cases heq; done)
    | (cases h; done)
theorem isxF_mem {c : Str} {t : TyN} {b : Bool} : ∀ {l : List Fx}, isxF c t l = some b → l.contains (.isx c t b) = true
  | [], h => by cases h
  | f :: r, h => by
    rw [List.contains_cons, Bool.or_eq_true]
    cases f with
    | isx c' t' b' =>
      unfold isxF at h
      split at h
      · rename_i e
        obtain ⟨rfl, rfl⟩ := e
        cases h
        exact .inl (by simp)
      · exact .inr (isxF_mem h)
    | _ => exact .inr (isxF_mem h)
theorem exmF_mem {c c1 : Str} {b : Bool} : ∀ {l : List Fx}, exmF c c1 l = some b → l.contains (.exm c c1 b) = true
  | [], h => by cases h
  | f :: r, h => by
    rw [List.contains_cons, Bool.or_eq_true]
    cases f with
    | exm c' t' b' =>
      unfold exmF at h
      split at h
      · rename_i e
        obtain ⟨rfl, rfl⟩ := e
        cases h
        exact .inl (by simp)
      · exact .inr (exmF_mem h)
    | _ => exact .inr (exmF_mem h)
/-! ### the suite's expressions -/
abbrev yv (X : Cx) (A : Around) (cm : Bool) (pn : List (Addr × Obj)) (xe : Value → Shared → Prop) : Cx := { X with A := A, calm := cm, pn := pn, xe := xe }
def tM (κ : KB) (en : Option Str) (i : Nat) (a : Addr) (cls : Value) (d : Option Addr) (m : DX → Option D) : TE := fun σ H Q => (en.isSome = true → σ[i]? = some (some (.ref a))) ∧ ∃ F x v, XRep κ F H x cls d ∧ m x = some v ∧ Q (vF v) H
def tMT (κ : KB) (en : Option Str) (i : Nat) (a : Addr) (cls : Value) (d : Option Addr) (m : DX → Option Bool) : TT := fun σ H Q => (en.isSome = true → σ[i]? = some (some (.ref a))) ∧ ∃ F x b, XRep κ F H x cls d ∧ m x = some b ∧ Q b H
def tyV (κ : KB) : TyN → V
  | .inl n => .ty n
  | .inr c => .ref (He.ga κ.K c)
theorem exSlot_inv {T : Tab} {y : Str} {i : Nat} (h : exSlot T (some y) = some i) : badName y = false ∧ T.nm.lookup y = some .local ∧ slotOf T.N y = some i := by
  have h : (if badName y = true then none else if T.nm.lookup y = some .local then slotOf T.N y else none) = some i := h
  split at h
  · cases h
  · rename_i hb
    split at h
    · rename_i hl
      exact ⟨by simpa using hb, hl, h⟩
    · cases h
section
variable {κ : KB} {k : Nat} {X : Cx} {T : Tab} {B : Hp} {xk : DX → Prop} {A' : Around} {cm : Bool} {pn : List (Addr × Obj)} {xe : Value → Shared → Prop} {a : Addr} {oe : Obj} {cls : Value} {d : Option Addr} {en : Option Str} {i : Nat}
theorem m_name (C : CtxOk κ k X T B xk) {y : Str} {pos : Pos} (h : exSlot T (some y) = some i) : PE (yv X A' cm pn xe) (.Name y pos) (tVar i) := by
  obtain ⟨h1, h2, h3⟩ := exSlot_inv h
  refine pe_var (i := i) (by show X.N[i]? = _; rw [C.hN]; exact slotOf_get h3) ?_ (bad_inv h1).1 (bad_inv h1).2
  show Vis X.env.scope y
  unfold Vis
  rw [C.nm, h2]
  exact .inl rfl
theorem m_cls (C : CtxOk κ k X T B xk) {c : Str} {t : TyN} {pos : Pos} (h : clsT T c = some t) : PE (yv X A' cm pn xe) (.Name c pos) (tC (tyV κ t)) := by
  unfold clsT at h
  split at h
  · cases h
  · rename_i hb
    have hb : badName c = false := by simpa using hb
    split at h
    · rename_i hn
      have hg : Gl (yv X A' cm pn xe) c := gl_of C hn
      split at h
      · rename_i c' e
        cases h
        obtain ⟨v, u, h1, h2, h3⟩ := C.glb c _ e
        have hv : v = .ref (He.ga κ.K c') := h3 (fun _ => none)
        subst hv
        exact pe_glob (X := yv X A' cm pn xe) hg h1 h2 (bad_inv hb).1
      · rename_i c' sm e
        cases h
        have ok := C.glb c _ e
        exact pe_glob (X := yv X A' cm pn xe) hg ok.1 (v := .ref _) rfl (bad_inv hb).1
      · rename_i n e
        cases h
        have ok := C.glb c _ e
        exact pe_bltn (X := yv X A' cm pn xe) hg ok.1 ok.2.1 (v := .ty n) rfl ok.2.2 (bad_inv hb).1
      · cases h
    · cases h
theorem tyV_rel {t : TyN} {u : Value} (h : RelV (tyV κ t) u) : u = tyVal κ t := by
  cases t <;> exact h
theorem m_const {c : Const} {j : Nat} {pos : Pos} : PE (yv X A' cm pn xe) (.Constant c j pos) (tM κ en i a cls d fun _ => constD c) := by
  cases c with
  | none => exact PE.imp pe_non fun σ H Q ⟨_, F, x, v, _, e, q⟩ => by cases e; exact q
  | bool b => exact PE.imp pe_bl fun σ H Q ⟨_, F, x, v, _, e, q⟩ => by cases e; exact q
  | int z => exact PE.imp pe_int fun σ H Q ⟨_, F, x, v, _, e, q⟩ => by cases e; exact q
  | str z => exact PE.imp pe_str fun σ H Q ⟨_, F, x, v, _, e, q⟩ => by cases e; exact q
  | _ => exact PE.no fun σ H Q ⟨_, F, x, v, _, e, q⟩ => by cases e
theorem m_attr (C : CtxOk κ k X T B xk) (hp : (a, oe) ∈ pn) (hz : Zc cls d oe) (hf : ∃ vs, oe.data = .fields vs) (hsl : exSlot T en = some i) {y f : Str} {p pos : Pos} : PE (yv X A' cm pn xe) (.Attribute (.Name y p) f pos) (tM κ en i a cls d fun x => mAttr T en x y f) := by
  by_cases h : ∃ x : DX, cls = .ref (He.ga κ.K x.c) ∧ ∃ v, mAttr T en x y f = some v
  · obtain ⟨x0, e0, v0, h0⟩ := h
    obtain ⟨h1, h2, _, _⟩ := mAttr_inv h0
    subst h1
    obtain ⟨f1, f2⟩ := C.fxs _ h2
    refine PE.imp (pe_xfG (Y := yv X A' cm pn xe) f1 f2 hp hz hf (m_name C hsl) rfl) fun σ H Q ⟨hs, F, x, v, xr, e, q⟩ => ?_
    obtain ⟨_, _, h3, h4⟩ := mAttr_inv e
    refine ⟨.ref a, hs rfl, rfl, e0, ?_⟩
    obtain ⟨_, xr⟩ := xr
    rcases xr with ⟨z, _⟩ | ⟨dd, vs, e1, e2, e3, e4⟩
    · rw [z] at h3; cases h3
    · obtain ⟨w, hw, rw'⟩ := zip_lookup e3 e4 h3
      have := rep_flat h4 rw'
      subst this
      exact ⟨dd, _, _, e1, e2, hw, q⟩
  · exact PE.no fun σ H Q ⟨_, F, x, v, xr, e, q⟩ => h ⟨x, xr.1, v, e⟩
theorem XRep.at {F H : Hp} {x : DX} {D : Addr} (h : XRep κ F H x cls d) : ExAt H D d := by
  rcases h.2 with ⟨_, e⟩ | ⟨dd, vs, e1, e2, _⟩
  · exact .inl e
  · exact .inr ⟨dd, _, e1, e2⟩
theorem m_isi (C : CtxOk κ k X T B xk) (hp : (a, oe) ∈ pn) (hz : Zc cls d oe) (hf : ∃ vs, oe.data = .fields vs) (hsl : exSlot T en = some i) {g y c : Str} {p p1 p2 pos : Pos} : PE (yv X A' cm pn xe) (.Call (.Name g p) [.Name y p1, .Name c p2] [] pos) (tM κ en i a cls d fun x => mIsi T en x g y c) := by
  by_cases h : ∃ x : DX, cls = .ref (He.ga κ.K x.c) ∧ ∃ v, mIsi T en x g y c = some v
  · obtain ⟨x0, e0, v0, h0⟩ := h
    obtain ⟨rfl, h1, h2, rfl, t, b, h3, h4, _⟩ := mIsi_inv h0
    obtain ⟨f1, f2⟩ := C.fxs _ (isxF_mem h4)
    have hg : Gl (yv X A' cm pn xe) ("isinstance" : Str) := gl_of C h1
    have hm : X.mg ("isinstance" : Str) = none := by
      cases e : T.g.lookup ("isinstance" : Str) with
      | none => rw [e] at h2; cases h2
      | some gv =>
        rw [e] at h2
        cases gv with
        | blt => exact C.glb _ _ e
        | _ => cases h2
    have hz' : Zc (.ref (He.ga κ.K x0.c)) d oe := by rw [← e0]; exact hz
    refine PE.imp (pe_callB (X := yv X A' cm pn xe) (call_isD (Y := yv X A' cm pn xe) f1 hp hz' hf) hg hm (by rfl) (pa_cons (m_name C hsl) (pa_cons (m_cls C h3) pa_nil (star_cons rfl [] _)) (star_cons rfl [_] _)) (by decide) (by decide) (star_cons rfl [_] _) (by rfl)) fun σ H Q ⟨hs, F, x, v, xr, e, q⟩ => ?_
    obtain ⟨_, _, _, _, t', b', h3', h4', rfl⟩ := mIsi_inv e
    rw [h3] at h3'; cases h3'
    obtain ⟨_, f2'⟩ := C.fxs _ (isxF_mem h4')
    have ec : He.ga κ.K x.c = He.ga κ.K x0.c := Value.ref.inj (xr.1.symm.trans e0)
    rw [ec] at f2'
    refine ⟨.ref a, hs rfl, ?_⟩
    exact ⟨tyV κ t, tyVal κ t, b', rfl, XRep.at xr, fun u r => tyV_rel r, f2', q⟩
  · exact PE.no fun σ H Q ⟨_, F, x, v, xr, e, q⟩ => h ⟨x, xr.1, v, e⟩
theorem m_boolV {m : DX → Expr → Option D} (hm : ∀ e, PE (yv X A' cm pn xe) e (tM κ en i a cls d fun x => m x e)) {op : BoolOp} {pos : Pos} : ∀ {vs : List Expr}, PE (yv X A' cm pn xe) (.BoolOp op vs pos) (tM κ en i a cls d fun x => mBoolV (m x) op vs)
  | [] => PE.no fun σ H Q ⟨_, F, x, v, _, e, q⟩ => by cases e
  | [e] => PE.imp (pe_one (hm e)) fun σ H Q h => h
  | e :: e2 :: es => by
    have inv : ∀ {x : DX} {v : D}, mBoolV (m x) op (e :: e2 :: es) = some v → ∃ b, m x e = some (.bl b) ∧ (match op with
      | .And => if b = true then mBoolV (m x) op (e2 :: es) else some (.bl false)
      | .Or => if b = true then some (.bl true) else mBoolV (m x) op (e2 :: es)) = some v := fun {x v} h => by
      unfold mBoolV at h
      split at h
      · rename_i b hb
        exact ⟨b, hb, h⟩
      · cases h
    have ih := @m_boolV m hm op pos (e2 :: es)
    cases op with
    | And =>
      refine PE.imp (pe_and (hm e) ih) fun σ H Q ⟨hs, F, x, v, xr, ev, q⟩ => ?_
      obtain ⟨b, e1, e2'⟩ := inv ev
      refine ⟨hs, F, x, _, xr, e1, b, rfl, ?_⟩
      cases b with
      | true => exact ⟨hs, F, x, v, xr, e2', q⟩
      | false => cases e2'; exact q
    | Or =>
      refine PE.imp (pe_or (hm e) ih) fun σ H Q ⟨hs, F, x, v, xr, ev, q⟩ => ?_
      obtain ⟨b, e1, e2'⟩ := inv ev
      refine ⟨hs, F, x, _, xr, e1, b, rfl, ?_⟩
      cases b with
      | false => exact ⟨hs, F, x, v, xr, e2', q⟩
      | true => cases e2'; exact q
theorem m_boolT {m : DX → Expr → Option Bool} (hm : ∀ e, PT (yv X A' cm pn xe) e (tMT κ en i a cls d fun x => m x e)) {op : BoolOp} {pos : Pos} : ∀ {vs : List Expr}, PW (yv X A' cm pn xe) (.BoolOp op vs pos) (tMT κ en i a cls d fun x => mBoolT (m x) op vs)
  | [] => ⟨fun _ _ _ σ H Q _ ⟨_, F, x, v, _, e, q⟩ => by cases e⟩
  | [e] => by
    cases op with
    | And => exact PW.imp (pw_and1 (hm e)) fun σ H Q h => h
    | Or => exact PW.imp (pw_or1 (hm e)) fun σ H Q h => h
  | e :: e2 :: es => by
    have inv : ∀ {x : DX} {v : Bool}, mBoolT (m x) op (e :: e2 :: es) = some v → ∃ b, m x e = some b ∧ (match op with
      | .And => if b = true then mBoolT (m x) op (e2 :: es) else some false
      | .Or => if b = true then some true else mBoolT (m x) op (e2 :: es)) = some v := fun {x v} h => by
      unfold mBoolT at h
      split at h
      · rename_i b hb
        exact ⟨b, hb, h⟩
      · cases h
    have ih := @m_boolT m hm op pos (e2 :: es)
    cases op with
    | And =>
      refine PW.imp (pw_and (hm e) ih) fun σ H Q ⟨hs, F, x, v, xr, ev, q⟩ => ?_
      obtain ⟨b, e1, e2'⟩ := inv ev
      refine ⟨hs, F, x, b, xr, e1, ?_⟩
      cases b with
      | true => exact ⟨hs, F, x, v, xr, e2', q⟩
      | false => cases e2'; exact q
    | Or =>
      refine PW.imp (pw_or (hm e) ih) fun σ H Q ⟨hs, F, x, v, xr, ev, q⟩ => ?_
      obtain ⟨b, e1, e2'⟩ := inv ev
      refine ⟨hs, F, x, b, xr, e1, ?_⟩
      cases b with
      | false => exact ⟨hs, F, x, v, xr, e2', q⟩
      | true => cases e2'; exact q
theorem m_all (C : CtxOk κ k X T B xk) (hp : (a, oe) ∈ pn) (hz : Zc cls d oe) (hf : ∃ vs, oe.data = .fields vs) (hsl : exSlot T en = some i) : ∀ n : Nat,
    (∀ e, PE (yv X A' cm pn xe) e (tM κ en i a cls d fun x => mE T en x n e)) ∧ ∀ e, PT (yv X A' cm pn xe) e (tMT κ en i a cls d fun x => mT T en x n e)
  | 0 => ⟨fun e => PE.no fun σ H Q ⟨_, F, x, v, _, ev, q⟩ => (by cases ev), fun e => PT.no fun σ H Q ⟨_, F, x, v, _, ev, q⟩ => (by cases ev)⟩
  | n + 1 => by
    obtain ⟨ih, ihT⟩ := m_all C hp hz hf hsl n
    refine ⟨fun e => ?_, fun e => ?_⟩
    · have no : (∀ x, mE T en x (n + 1) e = none) → PE (yv X A' cm pn xe) e (tM κ en i a cls d fun x => mE T en x (n + 1) e) := fun h => PE.no fun σ H Q ⟨_, F, x, v, _, ev, q⟩ => by
        have z := (h x).symm.trans ev
        cases z
      cases e with
      | Constant c j pos => exact m_const
      | Attribute o f pos =>
        cases o with
        | Name y p => exact m_attr C hp hz hf hsl
        | _ => exact no fun x => rfl
      | Call g args kws pos =>
        by_cases hc : ∃ gn p y p1 c p2, g = .Name gn p ∧ args = [.Name y p1, .Name c p2] ∧ kws = []
        · obtain ⟨gn, p, y, p1, c, p2, rfl, rfl, rfl⟩ := hc
          exact m_isi C hp hz hf hsl
        · exact PE.no fun σ H Q ⟨_, F, x, v, _, ev, q⟩ => hc (mE_call ev)
      | BoolOp op vs pos => exact m_boolV (m := fun x e => mE T en x n e) ih
      | UnaryOp op b pos =>
        cases op with
        | Not =>
          refine PE.imp (pe_not (ih b)) fun σ H Q ⟨hs, F, x, v, xr, ev, q⟩ => ?_
          obtain ⟨t, e1, rfl⟩ := Option.map_eq_some_iff.mp (show (boolO (mE T en x n b)).map (fun b => D.bl (!b)) = some v from ev)
          exact ⟨hs, F, x, _, xr, boolO_inv e1, t, rfl, q⟩
        | _ => exact no fun x => rfl
      | IfExp c b1 b2 pos =>
        refine PE.imp (pe_ifExp (ihT c) (ih b1) (ih b2)) fun σ H Q ⟨hs, F, x, v, xr, ev, q⟩ => ?_
        have ev : (match mT T en x n c with
          | some t => if t = true then mE T en x n b1 else mE T en x n b2
          | none => none) = some v := ev
        split at ev
        · rename_i t ht
          refine ⟨hs, F, x, t, xr, ht, ?_⟩
          cases t with
          | true => exact ⟨hs, F, x, v, xr, ev, q⟩
          | false => exact ⟨hs, F, x, v, xr, ev, q⟩
        · cases ev
      | BinOp b1 op b2 pos =>
        cases op with
        | Add =>
          refine PE.imp (pe_op (OpR.or op_add op_add_str) (ih b1) (ih b2)) fun σ H Q ⟨hs, F, x, v, xr, ev, q⟩ => ?_
          rcases mAdd_inv (show mAdd (mE T en x n b1) (mE T en x n b2) = some v from ev) with ⟨z, j, e1, e2, rfl⟩ | ⟨u, w, e1, e2, hl, rfl⟩
          · exact ⟨hs, F, x, _, xr, e1, hs, F, x, _, xr, e2, .inl ⟨z, j, rfl, rfl, q⟩⟩
          · exact ⟨hs, F, x, _, xr, e1, hs, F, x, _, xr, e2, .inr ⟨u, w, rfl, rfl, hl, q⟩⟩
        | _ => exact no fun x => rfl
      | _ => exact no fun x => rfl
    · have no : (∀ x, mT T en x (n + 1) e = none) → PT (yv X A' cm pn xe) e (tMT κ en i a cls d fun x => mT T en x (n + 1) e) := fun h => PT.no fun σ H Q ⟨_, F, x, v, _, ev, q⟩ => by
        have z := (h x).symm.trans ev
        cases z
      cases e with
      | BoolOp op vs pos => exact (m_boolT (m := fun x e => mT T en x n e) ihT).pt
      | UnaryOp op b pos =>
        cases op with
        | Not =>
          refine PT.imp (pt_not (ihT b)) fun σ H Q ⟨hs, F, x, v, xr, ev, q⟩ => ?_
          obtain ⟨t, e1, rfl⟩ := Option.map_eq_some_iff.mp (show (mT T en x n b).map (fun b => !b) = some v from ev)
          exact ⟨hs, F, x, t, xr, e1, q⟩
        | _ => exact no fun x => rfl
      | Call g args kws pos =>
        by_cases hc : ∃ gn p y p1 c p2, g = .Name gn p ∧ args = [.Name y p1, .Name c p2] ∧ kws = []
        · obtain ⟨gn, p, y, p1, c, p2, rfl, rfl, rfl⟩ := hc
          refine PT.imp (pt_truth (m_isi C hp hz hf hsl) fun _ => rfl) fun σ H Q ⟨hs, F, x, v, xr, ev, q⟩ => ?_
          have e := boolO_inv (show boolO (mIsi T en x gn y c) = some v from ev)
          exact ⟨hs, F, x, _, xr, e, v, rfl, q⟩
        · exact PT.no fun σ H Q ⟨_, F, x, v, _, ev, q⟩ => hc (mT_call ev)
      | _ => exact no fun x => rfl
end
end DL

set_option Elab.async false
set_option linter.all false
set_option maxRecDepth 100000
set_option maxHeartbeats 1000000
/-! DL15: every statement. -/
namespace DL
open PySem PySem.Spec PyProof.Rows L2

section
variable {κ : KB} {k : Nat} {X : Cx} {T : Tab} {B : Hp} {xk : DX → Prop} {n : Nat} {sf : Bool}

/-! ### o.m = e -/
theorem putFD_len (f : Str) (d : D) : ∀ {ns : List Str} {xs : List D}, ns.length = xs.length → (putFD f d ns xs).1.length = (putFD f d ns xs).2.length
  | [], [], _ => rfl
  | n :: ns, x :: xs, h => by
    unfold putFD
    by_cases e : n = f
    · rw [if_pos e]; exact h
    · rw [if_neg e]
      have := putFD_len f d (ns := ns) (xs := xs) (by simpa using h)
      simpa using this
  | [], _ :: _, h => by simp at h
  | _ :: _, [], h => by simp at h
theorem putFD_zip {F : Hp} {f : Str} {d : D} {v : V} (hd : Rep κ F d v) : ∀ {ns : List Str} {xs : List D} {vs : List V}, ns.length = xs.length → RepL κ F xs vs → ∃ ws, putF f v (ns.zip vs) = (putFD f d ns xs).1.zip ws ∧ RepL κ F (putFD f d ns xs).2 ws
  | [], [], vs, _, r => by
    rw [r.nil_inv]
    exact ⟨[v], rfl, .cons hd .nil⟩
  | n :: ns, x :: xs, vs, h, r => by
    obtain ⟨w, ws, rfl, h1, h2⟩ := r.cons_inv
    unfold putFD
    by_cases e : n = f
    · rw [if_pos e]
      refine ⟨v :: ws, ?_, .cons hd h2⟩
      show putF f v ((n, w) :: ns.zip ws) = (n, v) :: ns.zip ws
      unfold putF
      rw [if_pos e]
    · rw [if_neg e]
      obtain ⟨us, e1, e2⟩ := putFD_zip (f := f) hd (ns := ns) (by simpa using h) h2
      refine ⟨w :: us, ?_, .cons h1 e2⟩
      show putF f v ((n, w) :: ns.zip ws) = (n, w) :: _
      unfold putF
      rw [if_neg e, e1]
      rfl
  | [], _ :: _, _, h, _ => by simp at h
  | _ :: _, [], _, h, _ => by simp at h
theorem s_fld (C : CtxOk κ k X T B xk) {o : Expr} {m : Str} {py pos : Pos} {e : Expr} : PS X (.Assign [.Attribute o m py] e pos) (tS κ B sf (dS T sf xk (n + 1) (.Assign [.Attribute o m py] e pos))) := by
  have hf := (c_all n C).1
  by_cases hc : isComp e = false
  · refine PS.imp (ps_fld (hf o) (hf e) (sw_none hc _ _ _)) fun E σ H ⟨F0, p0, F, ρ, K, si, hd, eo⟩ => ?_
    have hd : dAsgF (dE n T xk) T o m e ρ K := hd
    refine ⟨F, ρ, _, si.env, hd.2, fun r ρ1 v F1 H1 h1 p1 o1 => ?_⟩
    obtain ⟨d, ρ1', hz, h1⟩ := frK_inv h1
    obtain ⟨F1', p1', rp⟩ := o1.frz p1 hz
    refine ⟨F1', ρ1', _, p1'.env, h1, fun r2 ρ2 x F2 H2 h2 p2 o2 => ?_⟩
    cases r2 with
    | slot i =>
      dsimp only at h2
      cases hl : look ρ2 (.slot i) with
      | none => rw [hl] at h2; exact h2.elim
      | some d2 =>
        rw [hl] at h2
        cases d2 with
        | obj c ns xs =>
          obtain ⟨⟨g1, g2⟩, h2⟩ := h2
          have hi := look_slot hl
          obtain ⟨a, c1, c2, c3, c4⟩ := p2.env.ow i _ hi
          obtain ⟨dx, vs, e1, e2, e3⟩ := c4
          have hx := o2.2
          rw [c1] at hx; cases hx
          obtain ⟨q1, q2⟩ := C.fld c m g1
          obtain ⟨ws, w1, w2⟩ := putFD_zip (f := m) (rp.mono p2.exF) e2 e3
          refine ⟨a, _, dx, _, rfl, e1, q1, q2, ?_, ?_⟩
          · rw [List.length_zip]; omega
          · refine eo.nx _ _ F2 _ h2 (si.post ((p1'.trans p2).ownSet hi c1 ⟨dx, ws, ?_, putFD_len m d e2, w2⟩))
            rw [upd_same, w1]
        | _ => exact h2.elim
    | _ => exact h2.elim
  · exact PS.no fun E σ H ⟨F0, p0, F, ρ, K, si, hd, eo⟩ => hc (show dAsgF (dE n T xk) T o m e ρ K from hd).1

/-! ### o[i] = e -/
theorem putG_len {α : Type} {key : Option Key} {a : α} : ∀ {ks : List (Option Key)} {xs : List α}, ks.length = xs.length → (putG key a ks xs).1.length = (putG key a ks xs).2.length
  | [], [], _ => rfl
  | k :: ks, x :: xs, h => by
    unfold putG
    by_cases e : k = key
    · rw [if_pos e]; exact h
    · rw [if_neg e]
      have := putG_len (key := key) (a := a) (ks := ks) (xs := xs) (by simpa using h)
      simpa using this
  | [], _ :: _, h => by simp at h
  | _ :: _, [], h => by simp at h
theorem putG_fst {α β : Type} {key : Option Key} {a : α} {b : β} : ∀ {ks : List (Option Key)} {xs : List α} {ys : List β}, ks.length = xs.length → ks.length = ys.length → (putG key a ks xs).1 = (putG key b ks ys).1
  | [], [], [], _, _ => rfl
  | k :: ks, x :: xs, y :: ys, h, h' => by
    unfold putG
    by_cases e : k = key
    · rw [if_pos e, if_pos e]
    · rw [if_neg e, if_neg e]
      show k :: _ = k :: _
      rw [putG_fst (by simpa using h) (by simpa using h')]
  | [], _ :: _, _, h, _ => by simp at h
  | _ :: _, [], _, h, _ => by simp at h
  | [], [], _ :: _, _, h => by simp at h
  | _ :: _, _ :: _, [], _, h => by simp at h
theorem putG_le {α : Type} {key : Option Key} {a : α} : ∀ {ks : List (Option Key)} {xs : List α}, (putG key a ks xs).1.length ≤ ks.length + 1
  | [], _ => by unfold putG; exact Nat.le_refl _
  | k :: ks, [] => by unfold putG; simp
  | k :: ks, x :: xs => by
    unfold putG
    by_cases e : k = key
    · rw [if_pos e]; simp
    · rw [if_neg e]
      have := putG_le (key := key) (a := a) (ks := ks) (xs := xs)
      simpa using this
theorem putG_rep {F : Hp} {key : Option Key} {d : D} {v : V} (hd : Rep κ F d v) : ∀ {ks : List (Option Key)} {xs : List D} {vs : List V}, ks.length = xs.length → RepL κ F xs vs → RepL κ F (putG key d ks xs).2 (putG key v ks vs).2
  | [], [], vs, _, r => by rw [r.nil_inv]; exact .cons hd .nil
  | k :: ks, x :: xs, vs, h, r => by
    obtain ⟨w, ws, rfl, h1, h2⟩ := r.cons_inv
    unfold putG
    by_cases e : k = key
    · rw [if_pos e, if_pos e]; exact .cons hd h2
    · rw [if_neg e, if_neg e]; exact .cons h1 (putG_rep hd (by simpa using h) h2)
  | [], _ :: _, _, h, _ => by simp at h
  | _ :: _, [], _, h, _ => by simp at h
theorem putG_vals {key : Option Key} {v : V} {u : Value} (hd : RelV v u) : ∀ {ks : List (Option Key)} {vs : List V} {us : List Value}, ks.length = vs.length → Vals vs us → Vals (putG key v ks vs).2 (putG key u ks us).2
  | [], [], _, _, .nil => .cons hd .nil
  | k :: ks, x :: xs, _, h, .cons r t => by
    unfold putG
    by_cases e : k = key
    · rw [if_pos e, if_pos e]; exact .cons hd t
    · rw [if_neg e, if_neg e]; exact .cons r (putG_vals hd (by simpa using h) t)
  | [], _ :: _, _, h, _ => by simp at h
  | _ :: _, [], _, h, _ => by simp at h
theorem stored_put {key : Option Key} {u : Value} : ∀ {ks : List (Option Key)} {us : List Value}, ks.length = us.length → ks.Nodup → stored (ks.zip us) key u = (putG key u ks us).1.zip (putG key u ks us).2
  | [], [], _, _ => rfl
  | k :: ks, w :: us, h, nd => by
    have h' : ks.length = us.length := by simpa using h
    have ih := stored_put (key := key) (u := u) h' (List.nodup_cons.mp nd).2
    unfold putG
    by_cases e : k = key
    · rw [if_pos e]
      unfold stored
      rw [List.zip_cons_cons, List.any_cons]
      simp only [e, decide_true, Bool.true_or, if_true, List.map_cons]
      show (key, u) :: _ = (key, u) :: ks.zip us
      congr 1
      have hn : ∀ p ∈ ks.zip us, p.1 ≠ key := fun p hp z => by
        have hm := (List.of_mem_zip (show (p.1, p.2) ∈ ks.zip us from hp)).1
        rw [z, ← e] at hm
        exact (List.nodup_cons.mp nd).1 hm
      refine (List.map_congr_left (g := id) fun p hp => ?_).trans (List.map_id _)
      rw [if_neg (hn p hp)]; rfl
    · rw [if_neg e]
      have e2 : stored ((k :: ks).zip (w :: us)) key u = (k, w) :: stored (ks.zip us) key u := by
        unfold stored
        rw [List.zip_cons_cons, List.any_cons]
        simp only [e, decide_false, Bool.false_or, List.map_cons, if_false]
        split <;> rfl
      rw [e2, ih]
      rfl
  | [], _ :: _, h, _ => by simp at h
  | _ :: _, [], h, _ => by simp at h
/-- o[i] = v, a list or a dict -/
def rSetN (nd : Addr → List (Option Key) → List V → Heap → Prop) : V → V → V → Hp → (Hp → Prop) → Prop := fun o i v H Q => rSetL o i v H Q ∨
  ∃ p ks vs key, o = .ref p ∧ H p = some (.ext (nd p ks vs)) ∧ (∀ (P : Program) (wd : World) u, RelV i u → (noneKind P wd).is key u = true) ∧ ks.length < sizeLine ∧ Q (upd H p (.ext (nd p (putG key v ks vs).1 (putG key v ks vs).2)))
theorem set_nd (hnd : κ.nd = ndP X.prog X.w) : PSet X (rSetN κ.nd) := by
  intro pins s σ H o i v ov iv u Q I ro ri rv h
  rcases h with h | ⟨p, ks, vs, key, rfl, hp, hi, hlt, hQ⟩
  · exact set_list pins s σ H o i v ov iv u Q I ro ri rv h
  · cases ro
    obtain ⟨z1, z2, z3, us, rus, dd⟩ := nd_at hnd I hp
    have hlu : ks.length = us.length := by rw [z3, rus.length]
    have hzl : (ks.zip us).length ≤ sizeLine := by rw [List.length_zip]; omega
    refine wpAny_setItem_pairs (hi _ _ iv ri) dd (fun h' dd' sb => ?_) hzl
    have hn : ks.Nodup := by
      obtain ⟨_, _, _, _, _, _, _, _, nd⟩ := dd
      rw [List.map_fst_zip (by omega)] at nd
      exact nd
    rw [stored_put hlu hn] at dd'
    obtain ⟨oo, e1, e2⟩ : ∃ oo es, h'.get? p = some oo ∧ es = oo.data := by
      obtain ⟨o', _, _, e, _⟩ := dd'
      exact ⟨o', _, e, rfl⟩
    refine ⟨_, I.write (x := p) (e := p) (o := .ext (κ.nd p (putG key v ks vs).1 (putG key v ks vs).2)) (t' := s.toks + 1) (by rw [hp]; trivial) (.inl rfl) (fun b o' hb e => (sb.2 b hb).trans e) ⟨oo, e2.1⟩ ⟨?_, ⟨oo, e2.1⟩, ?_⟩, hQ⟩
    · rw [hnd]
      refine ⟨?_, z2, putG_len z3, _, putG_vals rv z3 rus, ?_⟩
      · have := putG_le (key := key) (a := v) (ks := ks) (xs := vs); omega
      · rw [putG_fst (b := u) (ys := us) z3 hlu]
        exact dd'
    · rw [hnd]
      rintro h1 h2 ⟨a1, a2, a3, us', a4, a5⟩ e
      exact ⟨a1, a2, a3, us', a4, dict_keep a5 e⟩
end
abbrev pumpT (x : Str) (k1 k2 k3 k4 : Nat) (p1 p2 p3 p4 p5 p6 p7 p8 p9 p10 p11 p12 p13 : Pos) : Expr :=
  .BoolOp .And [.Compare (.Subscript (.Name x p1) (.Constant (.str "now") k1 p2) p3) [.Eq] [.Constant (.int 0) k2 p4] p5,
    .Compare (.Call (.Name "len" p6) [.Subscript (.Name x p7) (.Constant (.str "great") k3 p8) p9] [] p10) [.Gt] [.Constant (.int 0) k4 p11] p12] p13
abbrev pumpB (x : Str) (k5 k6 : Nat) (p14 p15 p16 p17 p18 p19 p20 p21 p22 : Pos) : Stmt :=
  .Assign [.Subscript (.Name x p14) (.Constant (.str "now") k5 p15) p16] (.Call (.Attribute (.Subscript (.Name x p17) (.Constant (.str "great") k6 p18) p19) "pop" p20) [] [] p21) p22
section
variable {κ : KB} {X : Cx}
/-- the view of one object exchanged -/
theorem hok_view {P : Program} {w : World} {H : Hp} {h : Heap} {p : Addr} {o : HO} (ok : HOk P w H h) (mu : Mut (H p)) (he : ∃ u, h.get? p = some u) (new : ObjOk P w (upd H p o) h p o) : HOk P w (upd H p o) h :=
  ok.write mu (.inl rfl) (fun _ _ _ e => e) he new
/-- the view of one object exchanged -/
theorem inv_view {pins : List (Addr × Obj)} {σ : L2.St} {H : Hp} {s : Shared} {q : Addr} {o : HO} (I : Inv X pins σ H s) (mu : Mut (H q)) (hm : ∃ u, s.heap.get? q = some u) (new : ObjOk X.prog X.w (upd H q o) s.heap q o) : Inv X pins σ (upd H q o) s where
  ok := I.ok
  os := I.os
  bare := I.bare
  base := by
    have un := I.base
    have ne : ∀ {b : Addr}, H b = none → b ≠ q := fun {b} e z => by rw [← z, e] at mu; exact mu
    refine ⟨un.keep, un.slot, fun b ob e n hx => ?_, un.there, fun b xs n => ?_, fun b ob u n => ?_, fun b ps n => ?_⟩
    · have := un.free b ob e n hx
      rw [upd_ne (ne this)]; exact this
    · have := un.tups b xs n
      rw [upd_ne (fun z => by rw [← z, this] at mu; exact mu)]; exact this
    · have := un.frzs b ob u n
      rw [upd_ne (fun z => by rw [← z, this] at mu; exact mu)]; exact this
    · obtain ⟨more, this⟩ := un.tbls b ps n
      exact ⟨more, by rw [upd_ne (fun z => by rw [← z, this] at mu; exact mu)]; exact this⟩
  loc := I.loc
  cell := I.cell
  free := by rw [upd_ne (fun z => by rw [← z, I.free] at mu; exact mu)]; exact I.free
  freeC := fun x c h => by
    have := I.freeC x c h
    rw [upd_ne (fun z => by rw [← z, this] at mu; exact mu)]; exact this
  pin := fun p hp => by
    obtain ⟨h1, h2, h3⟩ := I.pin p hp
    exact ⟨h1, by rw [upd_ne (fun z => by rw [← z, h2] at mu; exact mu)]; exact h2, h3⟩
  hok := hok_view I.hok mu hm new
  len := I.len
theorem key_str {x : Str} (P : Program) (wd : World) (u : Value) (r : RelV (.str x) u) : (noneKind P wd).is (strKey x) u = true := kV_is (P := P) (w := wd) (k := .inr x) r
/-- the loop, the list in view -/
def tPump (κ : KB) (i : Nat) : TS := fun D σ H => ∃ (p q : Addr) (a b c : Int) (ns : List Int), σ[i]? = some (some (.ref p)) ∧ p ≠ q ∧ H p = some (.ext (κ.nd p srcKs (srcVs q a b c))) ∧ H q = some (.lst (ns.map V.int)) ∧
  ∀ a' ns', D.nx σ (upd (upd H q (.lst (List.map V.int ns'))) p (.ext (κ.nd p srcKs (srcVs q a' b c))))
theorem ps_pump0 (hnd : κ.nd = ndP X.prog X.w) {x : Str} {i : Nat} {k1 k2 k3 k4 k5 k6 : Nat} {p1 p2 p3 p4 p5 p6 p7 p8 p9 p10 p11 p12 p13 p14 p15 p16 p17 p18 p19 p20 p21 p22 p23 : Pos} (hp : PassesOwn (model X.prog X.w) X.A X.env X.xe)
    (hN : X.N[i]? = some x) (hv : Vis X.env.scope x) (hb : badName x = false) (hg : Gl X "len") (hm : X.mg "len" = none) (hl : (p20.endLine == p21.line) = true) :
    PS X (.While (pumpT x k1 k2 k3 k4 p1 p2 p3 p4 p5 p6 p7 p8 p9 p10 p11 p12 p13) [pumpB x k5 k6 p14 p15 p16 p17 p18 p19 p20 p21 p22] [] p23) (tPump κ i) := by
  have eD : ∀ pos, PE X (.Name x pos) (tVar i) := fun pos => pe_var hN hv (bad_inv hb).1 (bad_inv hb).2
  have eIx : ∀ (y : Str) (k : Nat) (pa pb pc : Pos), PE X (.Subscript (.Name x pa) (.Constant (.str y) k pb) pc) (tOp (rIxN κ.nd) (tVar i) (tC (.str y))) := fun y k pa pb pc => pe_ix (ix_nd hnd) (eD pa) pe_str fun _ _ => rfl
  have eT : PT X (pumpT x k1 k2 k3 k4 p1 p2 p3 p4 p5 p6 p7 p8 p9 p10 p11 p12 p13) _ := (pw_and (pt_cmp (pos := p5) (pc_eqI (eIx "now" k1 p1 p2 p3) (pe_int (i := 0) (j := k2) (pos := p4)))) (pw_and1 (pos := p13) (pt_cmp (pos := p12) (pc_gt (pe_callB (pos := p10) call_len_seq hg hm boot_len (pa_cons (eIx "great" k3 p7 p8 p9) pa_nil)) (pe_int (i := 0) (j := k4) (pos := p11)))))).pt
  have eP : PE X (.Call (.Attribute (.Subscript (.Name x p17) (.Constant (.str "great") k6 p18) p19) "pop" p20) [] [] p21) _ := pe_bm0 PySem.F.plainAttrs_list PySem.F.slot_list_pop rfl mt_pop (eIx "great" k6 p17 p18 p19) rfl hl
  have sB : PS X (pumpB x k5 k6 p14 p15 p16 p17 p18 p19 p20 p21 p22) _ := ps_asg eP (pg_sub (eD p14) pe_str (set_nd hnd) fun _ => rfl) rfl rfl
  refine PS.imp (ps_while hp eT (pss_one sB)) fun D σ H ⟨p, q, a, b, c, ns, hσ, hpq, hp, hq, hn⟩ => ?_
  have eN : ∀ a, getG (strKey "now") srcKs (srcVs q a b c) = some (.int a) := fun a => rfl
  have eG : ∀ a, getG (strKey "great") srcKs (srcVs q a b c) = some (.ref q) := fun a => rfl
  have eU : ∀ a a', putG (strKey "now") (.int a') srcKs (srcVs q a b c) = (srcKs, srcVs q a' b c) := fun a a' => rfl
  refine ⟨fun m σ' H' => σ' = σ ∧ ∃ a' ns', m = List.length ns' ∧ H' = upd (upd H q (.lst (List.map V.int ns'))) p (.ext (κ.nd p srcKs (srcVs q a' b c))), ⟨ns.length, rfl, a, ns, rfl, ?_⟩, ?_⟩
  · funext y
    by_cases e : y = p
    · subst e; rw [upd_same, hp]
    · rw [upd_ne e]
      by_cases e2 : y = q
      · subst e2; rw [upd_same, hq]
      · rw [upd_ne e2]
  · rintro m σ' H' ⟨rfl, a', ns', rfl, rfl⟩
    have gp : upd (upd H q (.lst (List.map V.int ns'))) p (.ext (κ.nd p srcKs (srcVs q a' b c))) p = some (.ext (κ.nd p srcKs (srcVs q a' b c))) := upd_same
    have gq : upd (upd H q (.lst (List.map V.int ns'))) p (.ext (κ.nd p srcKs (srcVs q a' b c))) q = some (.lst (List.map V.int ns')) := by rw [upd_ne (Ne.symm hpq), upd_same]
    refine ⟨.ref p, hσ, p, srcKs, _, strKey "now", .int a', rfl, gp, key_str, eN a', ?_⟩
    refine ⟨a', 0, rfl, rfl, _, rfl, ?_⟩
    show if decide (a' = 0) = true then _ else _
    by_cases h0 : a' = 0
    · rw [if_pos (by simpa using h0)]
      refine ⟨.ref p, hσ, p, srcKs, _, strKey "great", .ref q, rfl, gp, key_str, eG a', ?_⟩
      refine ⟨q, _, rfl, .inl (SqL.of gq), ?_⟩
      refine ⟨_, 0, rfl, rfl, _, rfl, ?_⟩
      show if decide ((((List.map V.int ns').length : Nat) : Int) > 0) = true then _ else _
      rw [List.length_map]
      by_cases h1 : 0 < ns'.length
      · rw [if_pos (by simpa using h1)]
        have hx : (List.map V.int ns')[(List.map V.int ns').length - 1]? = some (.int (ns'[ns'.length - 1]'(by omega))) := by
          rw [List.length_map, List.getElem?_map, List.getElem?_eq_getElem (by omega)]; rfl
        refine ⟨fun σ2 H' => σ2 = σ' ∧ ∃ a', H' = upd (upd H q (.lst (List.map V.int ns'.dropLast))) p (.ext (κ.nd p srcKs (srcVs q a' b c))), ?_, ?_⟩
        · rintro σ2 H' ⟨rfl, a2, rfl⟩
          exact ⟨ns'.dropLast.length, by rw [List.length_dropLast]; omega, rfl, a2, _, rfl, rfl⟩
        · refine ⟨.ref p, hσ, p, srcKs, _, strKey "great", .ref q, rfl, gp, key_str, eG a', .inl ⟨rfl, _, SqL.of gq⟩, ?_⟩
          refine ⟨q, _, _, rfl, rfl, gq, hx, ?_⟩
          refine ⟨.ref p, hσ, .inr ⟨p, srcKs, srcVs q a' b c, strKey "now", rfl, by rw [upd_ne hpq, upd_same], key_str, by rw [sizeLine_eq]; decide, rfl, ns'[ns'.length - 1]'(by omega), ?_⟩⟩
          rw [eU]
          funext y
          by_cases e : y = p
          · subst e; rw [upd_same, upd_same]
          · rw [upd_ne e, upd_ne e]
            by_cases e2 : y = q
            · subst e2; rw [upd_same, upd_same, List.map_dropLast]
            · rw [upd_ne e2, upd_ne e, upd_ne e2, upd_ne e2]
      · rw [if_neg (by simpa using h1)]
        exact hn a' ns'
    · rw [if_neg (by simpa using h0)]
      exact hn a' ns'
def tPumpE (κ : KB) (i : Nat) : TS := fun D σ H => ∃ (p q q0 : Addr) (a b c : Int), σ[i]? = some (some (.ref p)) ∧ p ≠ q ∧ H p = some (.ext (κ.nd p srcKs (srcVs q a b c))) ∧ H q = some (.ext (bxI q0 q)) ∧
  ∀ a', D.nx σ (upd H p (.ext (κ.nd p srcKs (srcVs q a' b c))))
theorem PS.pump {st : Stmt} {i : Nat} (h : PS X st (tPump κ i)) : PS X st (tPumpE κ i) := by
  refine ⟨fun pins s σ H D I ⟨p, q, q0, a, b, c, hσ, hpq, hp, hq, hn⟩ => ?_⟩
  obtain ⟨⟨e0, ns, hl⟩, hm, _⟩ := I.hok q _ hq
  subst e0
  have I1 : Inv X pins σ (upd H q (.lst (ns.map V.int))) s := inv_view I (by rw [hq]; trivial) hm hl
  refine thn (h.run pins s σ _ ⟨fun σ' H' => σ' = σ ∧ ∃ a' ns', H' = upd (upd (upd H q (.lst (List.map V.int ns))) q (.lst (List.map V.int ns'))) p (.ext (κ.nd p srcKs (srcVs q a' b c))), fun _ _ => False, fun _ _ => False, fun _ _ => False⟩ I1 ⟨p, q, a, b, c, ns, hσ, hpq, by rw [upd_ne hpq]; exact hp, upd_same, fun a' ns' => ⟨rfl, a', ns', rfl⟩⟩) fun f s' hf => ?_
  cases f with
  | next =>
    obtain ⟨σ', H', I', rfl, a', ns', rfl⟩ := hf
    have gq : upd (upd (upd H q (.lst (List.map V.int ns))) q (.lst (List.map V.int ns'))) p (.ext (κ.nd p srcKs (srcVs q a' b c))) q = some (.lst (List.map V.int ns')) := by rw [upd_ne (Ne.symm hpq), upd_same]
    have hl' := I'.hok q _ gq
    obtain ⟨z, its, n, r, eo⟩ := hl'
    have I2 := inv_view I' (q := q) (o := .ext (bxI q q)) (by rw [gq]; trivial) ⟨_, eo⟩ ⟨⟨rfl, ns', z, its, n, r, eo⟩, ⟨_, eo⟩, bxI_stay⟩
    refine ⟨σ', _, I2, ?_⟩
    have e : upd (upd (upd (upd H q (.lst (List.map V.int ns))) q (.lst (List.map V.int ns'))) p (.ext (κ.nd p srcKs (srcVs q a' b c)))) q (.ext (bxI q q)) = upd H p (.ext (κ.nd p srcKs (srcVs q a' b c))) := by
      funext y
      by_cases e : y = q
      · subst e; rw [upd_same, upd_ne (Ne.symm hpq), hq]
      · rw [upd_ne e]
        by_cases e2 : y = p
        · subst e2; rw [upd_same, upd_same]
        · rw [upd_ne e2, upd_ne e, upd_ne e, upd_ne e2]
    rw [e]
    exact hn a'
  | brk => obtain ⟨_, _, _, z⟩ := hf; exact z.elim
  | cont => obtain ⟨_, _, _, z⟩ := hf; exact z.elim
  | ret u => obtain ⟨_, _, _, _, _, z⟩ := hf; exact z.elim
end
end DL

set_option Elab.async false
set_option linter.all false
set_option maxRecDepth 100000
set_option maxHeartbeats 1000000
/-! DL15: every statement. -/
namespace DL
open PySem PySem.Spec PyProof.Rows L2

section
variable {κ : KB} {k : Nat} {X : Cx} {T : Tab} {B : Hp} {xk : DX → Prop} {n : Nat} {sf : Bool}
theorem sub_imp (C : CtxOk κ k X T B xk) {o i : Expr} {σ : L2.St} {H F : Hp} {ρ : Env'} {d : D} {v : V} {kk : Env' → Prop} {Q : L2.St → Hp → Prop} (en : EnvOk κ B F H σ ρ) (rp : Rep κ F d v) (hd : dSetS (dE n T xk) o i d ρ kk)
    (hq : ∀ ρ' F' H', kk ρ' → Post κ B F H σ ρ F' H' ρ' → Q σ H') : gSub (tE κ B (dE n T xk) o) (tE κ B (dE n T xk) i) (rSetN κ.nd) v σ H Q := by
  refine ⟨F, ρ, _, en, hd, fun r2 ρ2 x F2 H2 h2 p2 o2 => ?_⟩
  cases r2 with
  | slot s =>
    refine ⟨F2, ρ2, _, p2.env, h2, fun r3 ρ3 y F3 H3 h3 p3 o3 => ?_⟩
    obtain ⟨d2, d3, hl, hl3, h3⟩ := two_inv h3
    have hi := look_slot hl
    obtain ⟨a, c1, c2, c3, c4⟩ := p3.env.ow s _ hi
    have hx := (o2.post p3 hl).2
    rw [c1] at hx; cases hx
    have rd3 := o3.rd p3.env hl3
    have rp' := rp.mono (p2.exF.trans p3.exF)
    cases hsd : setD d2 d3 d with
    | none => rw [hsd] at h3; exact h3.elim
    | some x' =>
      rw [hsd] at h3
      cases d2 with
      | lst xs =>
        cases d3 with
        | int kk =>
          obtain ⟨vs, e1, e3⟩ := c4
          have rk : y = .int kk := rd3
          subst rk
          have hsd : (match ixN xs.length kk with
            | some j => some (D.lst (xs.set j d))
            | none => none) = some x' := hsd
          cases hj : ixN xs.length kk with
          | none => rw [hj] at hsd; cases hsd
          | some j =>
            rw [hj] at hsd; cases hsd
            exact .inl ⟨a, vs, kk, j, rfl, rfl, e1, by rw [← e3.len]; exact hj, hq _ F3 _ h3.2 ((p2.trans p3).ownSet hi c1 ⟨_, upd_same, e3.set rp' j⟩)⟩
        | _ => cases hsd
      | dic ks xs =>
        obtain ⟨vs, e1, e2, e3⟩ := c4
        have hsd : (match keyD d3 with
          | some key => some (D.dic (putG key d ks xs).1 (putG key d ks xs).2)
          | none => none) = some x' := hsd
        cases hk : keyD d3 with
        | none => rw [hk] at hsd; cases hsd
        | some key =>
          rw [hk] at hsd
          cases hsd
          have hlt : ks.length < sizeLine := h3.1
          refine .inr ⟨a, ks, vs, key, rfl, e1, fun P wd u ru => keyD_is rd3 ru hk, hlt, hq _ F3 _ h3.2 ((p2.trans p3).ownSet hi c1 ⟨(putG key v ks vs).2, ?_, putG_len e2, putG_rep rp' e2 e3⟩)⟩
          rw [upd_same, putG_fst (b := v) (ys := vs) e2 (by rw [e2, e3.len])]
      | _ => cases hsd
  | _ => exact h2.elim
theorem sub_assign {o i : Expr} {py : Pos} {env : Env} (hsl : isSlice i = false) (v : Value) : assign (.Subscript o i py) env v = (do
    let ov ← holding [v] (eval o env)
    let iv ← holding [v, ov] (eval i env)
    standAt py
    holding [v, ov, iv] (setItem ov iv v)
    release [v, ov, iv] []) := by cases i <;> first | rfl | cases hsl
theorem s_sub (C : CtxOk κ k X T B xk) {o i : Expr} {py pos : Pos} {e : Expr} : PS X (.Assign [.Subscript o i py] e pos) (tS κ B sf (dS T sf xk (n + 1) (.Assign [.Subscript o i py] e pos))) := by
  have hf := (c_all n C).1
  by_cases hc : isComp e = false ∧ isSlice i = false
  · obtain ⟨hc, hsl⟩ := hc
    refine PS.imp (ps_asg (hf e) (pg_sub (hf o) (hf i) (set_nd C.hnd) (sub_assign hsl)) (by unfold swapsWithSole; exact sw_none hc _ _ _) (by rfl) (by rfl)) fun E σ H ⟨F0, p0, F, ρ, K, si, hd, eo⟩ => ?_
    have hd : dAsgS (dE n T xk) o i e ρ K := hd
    refine ⟨F, ρ, _, si.env, hd.2, fun r ρ1 v F1 H1 h1 p1 o1 => ?_⟩
    obtain ⟨d, ρ1', hz, h1⟩ := frK_inv h1
    obtain ⟨F1', p1', rp⟩ := o1.frz p1 hz
    exact sub_imp C p1'.env rp h1 fun ρ' F' H' hk p' => eo.nx _ _ F' H' hk (si.post (p1'.trans p'))
  · exact PS.no fun E σ H ⟨F0, p0, F, ρ, K, si, hd, eo⟩ => hc (show dAsgS (dE n T xk) o i e ρ K from hd).1
/-- a[i], b[j] = x, y -/
theorem s_swap (C : CtxOk κ k X T B xk) {o i o' i' e : Expr} {p1 p2 pt pos : Pos} {kt : Nat} : PS X (.Assign [.Tuple [.Subscript o i p1, .Subscript o' i' p2] kt pt] e pos) (tS κ B sf (fun ρ K => dSwap (dE n T xk) o i o' i' e ρ K)) := by
  have hf := (c_all n C).1
  by_cases hc : isComp e = false ∧ isSlice i = false ∧ isSlice i' = false
  · obtain ⟨hc, h1, h2⟩ := hc
    refine PS.imp (ps_asg (hf e) (pg_tup (n := 2) C.calm (pgs_cons (pg_sub (hf o) (hf i) (set_nd C.hnd) (sub_assign h1)) (pgs_cons (pg_sub (hf o') (hf i') (set_nd C.hnd) (sub_assign h2)) pgs_nil rfl) rfl) rfl rfl) (by unfold swapsWithSole; exact sw_none hc _ _ _) ?_ (by rfl)) fun E σ H ⟨F0, p0, F, ρ, K, si, hd, eo⟩ => ?_
    · cases e <;> first | rfl | skip
      rename_i vs k2 pt2
      unfold swappedStores
      dsimp only
      split
      · rfl
      · split
        · rfl
        · rfl
    · have hd : dSwap (dE n T xk) o i o' i' e ρ K := hd
      refine ⟨F, ρ, _, si.env, hd.2, fun r ρ1 v F1 H1 h1 p1 o1 => ?_⟩
      obtain ⟨d, ρ1', hz, h1⟩ := frK_inv h1
      obtain ⟨F1', p1', rp⟩ := o1.frz p1 hz
      split at h1
      · rename_i d1 d2
        unfold Rep at rp
        obtain ⟨a, vs, rfl, ht, rl⟩ := rp
        obtain ⟨v1, r1, rfl, rp1, rl1⟩ := rl.cons_inv
        obtain ⟨v2, r2, rfl, rp2, rl2⟩ := rl1.cons_inv
        rw [rl2.nil_inv] at ht
        refine ⟨a, [v1, v2], rfl, by rw [C.hK]; exact (same_t p1'.env.sub ht).sq, rfl, v1, [v2], rfl, ?_⟩
        refine sub_imp C p1'.env rp1 h1 fun ρ2 F2 H2 h2 p2 => ⟨v2, [], rfl, ?_⟩
        exact sub_imp C p2.env (rp2.mono p2.exF) h2 fun ρ3 F3 H3 h3 p3 => ⟨rfl, eo.nx _ _ F3 H3 h3 (si.post ((p1'.trans p2).trans p3))⟩
      · exact h1.elim
  · exact PS.no fun E σ H ⟨F0, p0, F, ρ, K, si, hd, eo⟩ => hc (show dSwap (dE n T xk) o i o' i' e ρ K from hd).1

/-! ### tuples of names -/
theorem keeps0 {tg : Expr} {σ σ' : L2.St} (h : tgKeeps T sf tg = true) (o : OnlyAt (tgSlots T.N tg) σ σ') : sf = true → σ'[0]? = σ[0]? := fun e => by
  refine o.2 0 fun z => ?_
  unfold tgKeeps at h
  rw [e] at h
  simp at h
  exact h z
theorem s_par (C : CtxOk κ k X T B xk) {es : List Expr} {kt : Nat} {pt pos : Pos} {e : Expr} (hp : parOk es (parVals e) = true) :
    PS X (.Assign [.Tuple es kt pt] e pos) (tS κ B sf (dS T sf xk (n + 1) (.Assign [.Tuple es kt pt] e pos))) := by
  have hf := (c_all n C).1
  have hp0 := hp
  cases e with
  | Tuple vs k2 pt2 =>
    have hp2 : ((nmsOf es).isSome && (vs.length == es.length && decide (es.length ≤ 100))) = true ∧ (!vs.any isStar && (vs.all (foldedForSure 8) || !vs.all (constantsAlone 8))) = true := by
      unfold parOk at hp
      split at hp
      · exact Bool.and_eq_true_iff.mp hp
      · cases hp
    obtain ⟨h1, h2⟩ := hp2
    simp only [Bool.and_eq_true, beq_iff_eq, decide_eq_true_eq] at h1
    obtain ⟨h1, hle, hsz⟩ := h1
    obtain ⟨h2, h3⟩ := Bool.and_eq_true_iff.mp h2
    have hst : vs.any isStar = false := by simpa using h2
    obtain ⟨xs, hx⟩ := Option.isSome_iff_exists.mp h1
    have d0 : ∀ ρ K, dS T sf xk (n + 1) (.Assign [.Tuple es kt pt] (.Tuple vs k2 pt2) pos) ρ K → (match slotsOf T sf xs with
      | some is => dUns (dE n T xk) vs ρ fun rs ρ1 => K.nx (putRs ρ1 is rs)
      | none => False) := fun ρ K hd => by
      have hd : dAsgT (dE n T xk) T sf es (.Tuple es kt pt) (.Tuple vs k2 pt2) ρ K := hd
      unfold dAsgT at hd
      rw [hp0] at hd
      dsimp only at hd
      unfold parSlots at hd
      rw [hx] at hd
      exact hd
    cases e1 : slotsOf T sf xs with
    | none => exact PS.no fun E σ H ⟨F0, p0, F, ρ, K, si, hd, eo⟩ => by have := d0 ρ K hd; rw [e1] at this; exact this
    | some is =>
      obtain ⟨a1, a2, a3, a4, a5, a6⟩ := slots_ok C hx e1
      refine PS.imp (ps_many C.calm a1 a2 a3 (by omega) (pa_uns hf hst) a5 (sw_two hx h3)) fun E σ H ⟨F0, p0, F, ρ, K, si, hd, eo⟩ => ?_
      have hd := d0 ρ K hd
      rw [e1] at hd
      refine uns_imp si.env hd fun rs vs' ρ' F' H' hk p vns hl _ => ⟨by rw [← vns.len, hl, a6, hle], ?_⟩
      exact eo.nx _ _ F' H' hk ((si.post p).slots (put_all p.env vns) fun z => setAll_0 (a4 z))
  | _ =>
    exfalso
    unfold parOk at hp
    split at hp
    · simp [parVals] at hp
    · cases hp
theorem s_tup (C : CtxOk κ k X T B xk) {es : List Expr} {kt : Nat} {pt pos : Pos} {e : Expr} : PS X (.Assign [.Tuple es kt pt] e pos) (tS κ B sf (dS T sf xk (n + 1) (.Assign [.Tuple es kt pt] e pos))) := by
  have hf := (c_all n C).1
  cases hp : parOk es (parVals e) with
  | true => exact s_par C hp
  | false =>
    cases hsw : swapOf es with
    | some q =>
      obtain ⟨⟨o, i⟩, ⟨o', i'⟩⟩ := q
      have es2 : ∃ p1 p2, es = [.Subscript o i p1, .Subscript o' i' p2] := by
        unfold swapOf at hsw
        split at hsw
        · cases hsw; exact ⟨_, _, rfl⟩
        · cases hsw
      obtain ⟨p1, p2, rfl⟩ := es2
      refine PS.imp (s_swap (n := n) (sf := sf) C) fun E σ H ⟨F0, p0, F, ρ, K, si, hd, eo⟩ => ⟨F0, p0, F, ρ, K, si, ?_, eo⟩
      have hd : dAsgT (dE n T xk) T sf [.Subscript o i p1, .Subscript o' i' p2] (.Tuple [.Subscript o i p1, .Subscript o' i' p2] kt pt) e ρ K := hd
      unfold dAsgT at hd
      rw [hp] at hd
      exact hd
    | none =>
    cases hst : starOf es with
    | some q =>
      obtain ⟨a, b⟩ := q
      have es2 : ∃ p1 p2 p3, es = [.Name a p1, .Starred (.Name b p2) p3] := by
        unfold starOf at hst
        split at hst
        · cases hst; exact ⟨_, _, _, rfl⟩
        · cases hst
      obtain ⟨p1, p2, p3, rfl⟩ := es2
      have d0 : ∀ ρ K, dS T sf xk (n + 1) (.Assign [.Tuple [.Name a p1, .Starred (.Name b p2) p3] kt pt] e pos) ρ K → dStar (dE n T xk) T sf a b e ρ K := fun ρ K hd => by
        have hd : dAsgT (dE n T xk) T sf [.Name a p1, .Starred (.Name b p2) p3] (.Tuple [.Name a p1, .Starred (.Name b p2) p3] kt pt) e ρ K := hd
        unfold dAsgT at hd
        rw [hp, hsw] at hd
        exact hd
      cases e1 : locSlot T sf a with
      | none => exact PS.no fun E σ H ⟨F0, p0, F, ρ, K, si, hd, eo⟩ => by have hd := d0 ρ K hd; unfold dStar at hd; rw [e1] at hd; exact hd
      | some i =>
        cases e2 : locSlot T sf b with
        | none => exact PS.no fun E σ H ⟨F0, p0, F, ρ, K, si, hd, eo⟩ => by have hd := d0 ρ K hd; unfold dStar at hd; rw [e1, e2] at hd; exact hd
        | some j =>
          obtain ⟨hi, hlA, hfA, hi0⟩ := loc_inv C e1
          obtain ⟨hj, hlB, hfB, hj0⟩ := loc_inv C e2
          have hN : X.N.Nodup := by rw [C.hN]; exact C.nd
          by_cases ht : isTup e = false
          · have hw : swappedStores [.Tuple [.Name a p1, .Starred (.Name b p2) p3] kt pt] e X.env = pure none := by
              cases e <;> first | rfl | cases ht
            have hs : swapsWithSole [.Tuple [.Name a p1, .Starred (.Name b p2) p3] kt pt] e pos.line X.env = pure false := by
              unfold swapsWithSole
              cases e <;> rfl
            refine PS.imp (ps_asg (hf e) (pg_star C.calm hN hi hj hlA hlB hfA hfB) hs hw (by rfl)) fun E σ H ⟨F0, p0, F, ρ, K, si, hd, eo⟩ => ?_
            have hd := d0 ρ K hd
            unfold dStar at hd
            rw [e1, e2] at hd
            obtain ⟨⟨_, hij⟩, hd⟩ := hd
            refine ⟨F, ρ, _, si.env, hd, fun r ρ1 v F1 H1 h1 p1 o1 => ?_⟩
            cases hl : look ρ1 r with
            | none => rw [hl] at h1; exact h1.elim
            | some d =>
              rw [hl] at h1
              cases d with
              | lst ds =>
                cases ds with
                | nil => exact h1.elim
                | cons x xs =>
                  obtain ⟨l, vs, rfl, h2, rl⟩ := o1.rd p1.env hl
                  obtain ⟨v0, vs', rfl, r0, rl'⟩ := rl.cons_inv
                  refine ⟨l, v0, vs', rfl, SqL.of h2, fun p hn => ?_⟩
                  have pp : Post κ B F1 H1 σ ρ1 F1 (upd H1 p (.lst vs')) ρ1 := .heap p1.env (same_new hn)
                  have v1 : VN κ B F1 (upd H1 p (.lst vs')) σ ρ1 (.val x) v0 := r0
                  have v2 : VN κ B F1 (upd H1 p (.lst vs')) σ ρ1 (.new (.lst xs)) (.ref p) := ⟨p, rfl, p1.env.sub.free hn, p1.env.noRoot hn, ⟨vs', upd_same, rl'⟩, p1.env.bas.free hn⟩
                  have en1 := put_ok (i := i) pp.env v1
                  have v2' := v1.put (i := i) v2 fun d d' z => by cases z
                  exact eo.nx _ _ F1 _ h1 ((si.post (p1.trans pp)).slots (put_ok (i := j) en1 v2') fun z => by rw [List.getElem?_set_ne (hj0 z), List.getElem?_set_ne (hi0 z)])
              | _ => exact h1.elim
          · exact PS.no fun E σ H ⟨F0, p0, F, ρ, K, si, hd, eo⟩ => by have hd := d0 ρ K hd; unfold dStar at hd; rw [e1, e2] at hd; exact ht hd.1.1
    | none =>
    have d0 : ∀ ρ K, dS T sf xk (n + 1) (.Assign [.Tuple es kt pt] e pos) ρ K → (isTup e = false ∧ tgKeeps T sf (.Tuple es kt pt) = true) ∧ dE n T xk e ρ (frK fun d ρ1 => dTg T (.Tuple es kt pt) d ρ1 K.nx) := fun ρ K hd => by
      have hd : dAsgT (dE n T xk) T sf es (.Tuple es kt pt) e ρ K := hd
      unfold dAsgT at hd
      rw [hp, hsw] at hd
      dsimp only at hd
      rw [hst] at hd
      exact hd
    by_cases ht : isTup e = false ∧ tgKeeps T sf (.Tuple es kt pt) = true
    · have hw : swappedStores [.Tuple es kt pt] e X.env = pure none := by
        obtain ⟨ht, _⟩ := ht
        cases e <;> first | rfl | cases ht
      have hs : swapsWithSole [.Tuple es kt pt] e pos.line X.env = pure false := by
        unfold swapsWithSole
        cases e <;> rfl
      refine PS.imp (ps_asg (hf e) (c_tg C (.Tuple es kt pt)) hs hw (by rfl)) fun E σ H ⟨F0, p0, F, ρ, K, si, hd, eo⟩ => ?_
      have hd := (d0 ρ K hd).2
      refine ⟨F, ρ, _, si.env, hd, fun r ρ1 v F1 H1 h1 p1 o1 => ?_⟩
      obtain ⟨d, ρ1', hz, h1⟩ := frK_inv h1
      obtain ⟨F1', p1', rp⟩ := o1.frz p1 hz
      exact ⟨F1', ρ1', d, _, p1'.env, rp, h1, fun ρ' σ' hk en oa _ => eo.nx _ _ F1' H1 hk ((si.post p1').slots en (keeps0 ht.2 oa))⟩
    · exact PS.no fun E σ H ⟨F0, p0, F, ρ, K, si, hd, eo⟩ => ht (d0 ρ K hd).1

/-! ### name op= e -/
theorem s_aug (C : CtxOk κ k X T B xk) {x : Str} {py pos : Pos} {op : Operator} {e : Expr} : PS X (.AugAssign (.Name x py) op e pos) (tS κ B sf (dS T sf xk (n + 1) (.AugAssign (.Name x py) op e pos))) := by
  have hf := (c_all n C).1
  have d0 : ∀ ρ K, dS T sf xk (n + 1) (.AugAssign (.Name x py) op e pos) ρ K → dAug (dE n T xk) T sf x op e ρ K := fun ρ K hd => hd
  cases ho : augOp op with
  | none =>
    exact PS.no fun E σ H ⟨F0, p0, F, ρ, K, si, hd, eo⟩ => by
      have hd := d0 ρ K hd
      unfold dAug at hd
      rw [ho] at hd; exact hd
  | some g =>
    cases hl : locSlot T sf x with
    | none =>
      exact PS.no fun E σ H ⟨F0, p0, F, ρ, K, si, hd, eo⟩ => by
        have hd := d0 ρ K hd
        unfold dAug at hd
        rw [ho, hl] at hd; exact hd
    | some i =>
      obtain ⟨hi, hx, hfn, h0⟩ := loc_inv C hl
      have hN : X.N.Nodup := by rw [C.hN]; exact C.nd
      have hg : PIp X op (ipI g) := by
        cases op <;> first | cases ho; done | (cases ho; first | exact ip_add | exact ip_sub)
      refine PS.imp (ps_aug hN hi hx (hf e) hg hfn) fun E σ H ⟨F0, p0, F, ρ, K, si, hd, eo⟩ => ?_
      have hd := d0 ρ K hd
      unfold dAug at hd
      rw [ho, hl] at hd
      dsimp only at hd
      split at hd
      · rename_i a ha
        obtain ⟨v, hv, rv⟩ := si.env.fr i _ ha
        have rv : v = .int a := rv
        subst rv
        refine ⟨_, hv, F, ρ, _, si.env, hd, fun r ρ1 w F1 H1 h1 p1 o1 => ?_⟩
        cases hr : look ρ1 r with
        | none => rw [hr] at h1; exact h1.elim
        | some d =>
          rw [hr] at h1
          cases d with
          | int b =>
            have rw' : w = .int b := o1.rd p1.env hr
            subst rw'
            refine ⟨a, b, rfl, rfl, ?_⟩
            exact eo.nx _ _ F1 H1 h1 ((si.post p1).slots (put_ok (r := .val (.int (g a b))) p1.env (show Rep κ F1 (.int (g a b)) (.int (g a b)) from rfl)) (set0 h0))
          | _ => exact h1.elim
      · exact hd.elim

/-! ### loops -/
/-- a block's reading -/
def tSs (κ : KB) (B : Hp) (sf : Bool) (d1 : Stmt → Env' → DEnds → Prop) (sts : List Stmt) : TS := tS κ B sf (dSeq d1 sts)
theorem s_for (C : CtxOk κ k X T B xk) {tg it : Expr} {body : List Stmt} {pos : Pos} (hb : PSs X body (tSs κ B sf (dS T sf xk n) body)) : PS X (.For tg it body [] pos) (tS κ B sf (dS T sf xk (n + 1) (.For tg it body [] pos))) := by
  have hf := (c_all n C).1
  by_cases hs : noSet it = true
  · refine PS.imp (ps_for C.pas C.calm (c_iter C hf tg it) (c_tg C tg) hb (fs_noSet hs X.env)) fun E σ H ⟨F0, p0, F, ρ, K, si, hd, eo⟩ => ?_
    obtain ⟨hk, hd⟩ : tgKeeps T sf tg = true ∧ dIter (dE n T xk) T tg it ρ fun ds ρ1 => dForL T tg (fun ρ K => dSeq (dS T sf xk n) body ρ K) ds ρ1 K := hd
    refine ⟨F, ρ, _, si.env, hd, fun ds ρ1 F1 H1 J h1 p1 hJ => ?_⟩
    have s1 := si.post p1
    refine ⟨fun i m σ' H' => m = ds.length - i ∧ i ≤ ds.length ∧ ∃ F' ρ', SI κ B F1 sf p0 F' H' σ' ρ' ∧ dForL T tg (fun ρ K => dSeq (dS T sf xk n) body ρ K) (ds.drop i) ρ' K, ⟨ds.length, by simp, Nat.zero_le _, F1, ρ1, s1.again, by simpa using h1⟩, ?_⟩
    rintro i m σ' H' ⟨rfl, hi, F', ρ', s', hd⟩
    by_cases hlt : i < ds.length
    · refine .inr ⟨hJ.go i H' (s'.ex.trans s'.env.sub) hlt, fun σ3 H3 => ∃ F3 ρ3, SI κ B F1 sf p0 F3 H3 σ3 ρ3 ∧ dForL T tg (fun ρ K => dSeq (dS T sf xk n) body ρ K) (ds.drop (i + 1)) ρ3 K, fun σ3 H3 hN => ⟨ds.length - (i + 1), by omega, rfl, hlt, hN⟩, fun x H2 y => ?_⟩
      obtain ⟨d, F2, g1, g2, g3, g4, g5, g6⟩ := hJ.yld i F' H' x H2 s'.ex s'.env.sub hlt y
      rw [List.drop_eq_getElem_cons hlt] at hd
      have ed : ds[i] = d := by rw [List.getElem?_eq_getElem hlt] at g1; exact Option.some.inj g1
      rw [ed] at hd
      have s2 := s'.post (Post.grow s'.env g3 g2 g4 g5)
      refine ⟨F2, ρ', d, _, s2.env, g6, hd, fun ρ2 σ2 h2 e2 o2 t2 => ?_⟩
      have s3 := s2.slots e2 (keeps0 hk o2)
      refine ⟨F1, p0, F2, ρ2, _, s3, h2, ⟨fun ρ3 σ3 F3 H3 h3 s3 => ⟨F3, ρ3, s3, h3⟩, fun ρ3 σ3 F3 H3 h3 s3 => eo.nx ρ3 σ3 F3 H3 h3 (s1.trans s3), fun ρ3 σ3 F3 H3 h3 s3 => ⟨F3, ρ3, s3, h3⟩, fun d ρ3 v σ3 F3 H3 h3 s3 rp => eo.rt d ρ3 v σ3 F3 H3 h3 (s1.trans s3) rp⟩⟩
    · have e : i = ds.length := by omega
      subst e
      rw [List.drop_length] at hd
      exact .inl ⟨hJ.stop H' (s'.ex.trans s'.env.sub), eo.nx _ _ F' H' hd (s1.trans s')⟩
  · exact PS.no fun E σ H ⟨F0, p0, F, ρ, K, si, hd, eo⟩ => hs (dIter_noSet (show tgKeeps T sf tg = true ∧ dIter (dE n T xk) T tg it ρ _ from hd).2)
/-- the pump -/
theorem s_pump (C : CtxOk κ k X T B xk) {c : Expr} {body : List Stmt} {pos : Pos} {i : Nat} (hpu : pumpAt T c body = some i) : PS X (.While c body [] pos) (tS κ B sf (dS T sf xk (n + 1) (.While c body [] pos))) := by
  have hE : ∀ ρ K, dS T sf xk (n + 1) (.While c body [] pos) ρ K → dPump i ρ K := fun ρ K hd => by
    have hd : (match pumpAt T c body with
      | some i => dPump i ρ K
      | none => ∃ m, dWh (dT n T xk c) (fun ρ K => dSeq (dS T sf xk n) body ρ K) m ρ K) := hd
    rw [hpu] at hd
    exact hd
  unfold pumpAt at hpu
  split at hpu
  · split at hpu
    · rename_i hc
      obtain ⟨rfl, rfl, rfl, rfl, rfl, rfl, rfl, rfl, rfl, rfl, rfl, hl, hb, hnl, hng, hgl, hfx⟩ := hc
      have hg : Gl X "len" := by show X.env.scope.names.lookup _ = _; rw [C.nm]; exact hng
      have hm : X.mg "len" = none := C.glb _ _ (isBl0_inv hgl)
      refine PS.imp (PS.pump (κ := κ) (i := i) (ps_pump0 C.hnd C.pas (by rw [C.hN]; exact slotOf_get hpu) (by unfold Vis; rw [C.nm, hnl]; exact .inl rfl) hb hg hm hl)) fun E σ H ⟨F0, p0, F, ρ, K, si, hd, eo⟩ => ?_
      have hd := hE _ _ hd
      unfold dPump at hd
      split at hd
      · rename_i ks kb a b c hi
        obtain ⟨⟨rfl, hk⟩, hn⟩ := hd
        obtain ⟨p, hσ, hF, hB, vs, hH, hlen, rl⟩ := si.env.ow i _ hi
        obtain ⟨v1, r1, rfl, q1, rl⟩ := rl.cons_inv
        obtain ⟨v2, r2, rfl, q2, rl⟩ := rl.cons_inv
        obtain ⟨v3, r3, rfl, q3, rl⟩ := rl.cons_inv
        obtain ⟨v4, r4, rfl, q4, rl⟩ := rl.cons_inv
        have e5 := rl.nil_inv
        subst e5
        have q10 := q1
        unfold Rep at q1 q2 q3 q4
        subst q2 q3 q4
        obtain ⟨q, rfl, hq⟩ := q1
        have hbx : κ.bx kb = bxI (kb / 2) := by
          have := C.fxs _ hfx (kb / 2)
          rw [show 2 * (kb / 2) + 1 = kb by omega] at this
          exact this
        have hqH := si.env.sub _ _ hq
        rw [hbx] at hqH
        refine ⟨p, q, kb / 2, a, b, c, hσ, (fun z => by rw [← z, hF] at hq; cases hq), hH, hqH, fun a' => ?_⟩
        exact eo.nx _ _ F _ (hn a') (si.post ((Post.refl si.env).ownSet hi hσ ⟨_, upd_same, rfl, .cons q10 (.cons rfl (.cons rfl (.cons rfl .nil)))⟩))
      · exact hd.elim
    · cases hpu
  · cases hpu
theorem s_while (C : CtxOk κ k X T B xk) {c : Expr} {body : List Stmt} {pos : Pos} (hb : PSs X body (tSs κ B sf (dS T sf xk n) body)) : PS X (.While c body [] pos) (tS κ B sf (dS T sf xk (n + 1) (.While c body [] pos))) := by
  have ht := (c_all n C).2
  cases hpu : pumpAt T c body with
  | some i => exact s_pump C hpu
  | none =>
  refine PS.imp (ps_while C.pas (ht c) hb) fun E σ H ⟨F0, p0, F, ρ, K, si, hd, eo⟩ => ?_
  have hd : (match pumpAt T c body with
    | some i => dPump i ρ K
    | none => ∃ m, dWh (dT n T xk c) (fun ρ K => dSeq (dS T sf xk n) body ρ K) m ρ K) := hd
  rw [hpu] at hd
  obtain ⟨m, hd⟩ : ∃ m, dWh (dT n T xk c) (fun ρ K => dSeq (dS T sf xk n) body ρ K) m ρ K := hd
  refine ⟨fun m σ' H' => ∃ F' ρ', SI κ B F0 sf p0 F' H' σ' ρ' ∧ dWh (dT n T xk c) (fun ρ K => dSeq (dS T sf xk n) body ρ K) m ρ' K, ⟨m, F, ρ, si, hd⟩, ?_⟩
  rintro m σ' H' ⟨F', ρ', s', hd⟩
  cases m with
  | zero => exact hd.elim
  | succ m =>
    refine ⟨F', ρ', _, s'.env, hd, fun b ρ1 F1 H1 h1 p1 => ?_⟩
    have s1 := s'.post p1
    cases b with
    | false => exact eo.nx _ _ F1 H1 h1 s1
    | true =>
      refine ⟨fun σ3 H3 => ∃ F3 ρ3, SI κ B F0 sf p0 F3 H3 σ3 ρ3 ∧ dWh (dT n T xk c) (fun ρ K => dSeq (dS T sf xk n) body ρ K) m ρ3 K, fun σ3 H3 hN => ⟨m, Nat.lt_succ_self m, hN⟩, ?_⟩
      exact ⟨F0, p0, F1, ρ1, _, s1, h1, ⟨fun ρ3 σ3 F3 H3 h3 s3 => ⟨F3, ρ3, s3, h3⟩, fun ρ3 σ3 F3 H3 h3 s3 => eo.nx ρ3 σ3 F3 H3 h3 s3, fun ρ3 σ3 F3 H3 h3 s3 => ⟨F3, ρ3, s3, h3⟩, fun d ρ3 v σ3 F3 H3 h3 s3 rp => eo.rt d ρ3 v σ3 F3 H3 h3 s3 rp⟩⟩
theorem s_seq {d1 : Stmt → Env' → DEnds → Prop} (h : ∀ st, PS X st (tS κ B sf (d1 st))) : ∀ sts, PSs X sts (tSs κ B sf d1 sts)
  | [] => PSs.imp pss_nil fun E σ H ⟨F0, p0, F, ρ, K, si, hd, eo⟩ => eo.nx _ _ F H hd si
  | st :: sts => by
    refine PSs.imp (pss_cons (h st) (s_seq h sts)) fun E σ H ⟨F0, p0, F, ρ, K, si, hd, eo⟩ => ?_
    exact ⟨F0, p0, F, ρ, _, si, hd, ⟨fun ρ' σ' F' H' hk s' => ⟨F0, p0, F', ρ', K, s', hk, eo⟩, eo.bk, eo.ct, eo.rt⟩⟩
end
theorem excF_mem {c f : Str} : ∀ {l : List Fx}, excF c l = some f → l.contains (.exc c f) = true
  | [], h => by cases h
  | .exc c' f' :: r, h => by
    unfold excF at h
    rw [List.contains_cons, Bool.or_eq_true]
    split at h
    · rename_i e
      cases h; subst e
      exact .inl (by simp)
    · exact .inr (excF_mem h)
  | .eqc _ _ :: r, h => by
    unfold excF at h
    rw [List.contains_cons, Bool.or_eq_true]
    exact .inr (excF_mem h)
  | .src :: r, h => by
    unfold excF at h
    rw [List.contains_cons, Bool.or_eq_true]
    exact .inr (excF_mem h)
  | .lend _ :: r, h => by
    unfold excF at h
    rw [List.contains_cons, Bool.or_eq_true]
    exact .inr (excF_mem h)
  | .exm _ _ _ :: r, h => by
    unfold excF at h
    rw [List.contains_cons, Bool.or_eq_true]
    exact .inr (excF_mem h)
  | .isx _ _ _ :: r, h => by
    unfold excF at h
    rw [List.contains_cons, Bool.or_eq_true]
    exact .inr (excF_mem h)
  | .xat _ _ :: r, h => by
    unfold excF at h
    rw [List.contains_cons, Bool.or_eq_true]
    exact .inr (excF_mem h)
theorem ps_raiseB {X : Cx} {W : WX} {e : Expr} {t : L2.St → Hp → XK → Prop} {pos : Pos} {c : Bool} (hc : X.calm = true) (tk : TakesB c X W) (he : L2N.PMk X e t) : PS X (.Raise (some e) none pos) (fun _ σ H => t σ H fun cls d H' => W cls d σ H') :=
  L2N.ps_raise hc tk.n he
theorem s_raise {κ : KB} {k : Nat} {X : Cx} {T : Tab} {B : Hp} {xk : DX → Prop} {sf : Bool} {n : Nat} (C : CtxOk κ k X T B xk) {e : Expr} {pos : Pos} (hf : ∀ e, PE X e (tE κ B (dE n T xk) e)) :
    PS X (.Raise (some e) none pos) (tS κ B sf (fun ρ _ => dRaise T xk (dE n T xk) e ρ)) := by
  by_cases hc : ∃ ρ, dRaise T xk (dE n T xk) e ρ
  case neg => exact PS.no fun E σ H ⟨F0, p0, F, ρ, K, si, hd, eo⟩ => hc ⟨ρ, hd⟩
  obtain ⟨ρ0, hc⟩ := hc
  unfold dRaise at hc
  split at hc
  · rename_i c p a pos'
    obtain ⟨h1, h2, hc⟩ := hc
    split at hc
    · rename_i m hm
      obtain ⟨f0, f1, f2, f3, f4, f5, E, fI, cc, cda, Bn, newId, initId, bmB, name, qual, params, scope, dV, kV, doc, pm, an, ct, sn, x, p0, p1, p2, p3, p4, p5, p6, p7, p8, p9, S⟩ := C.fxs _ (excF_mem hm)
      obtain ⟨W, tk, hW⟩ := C.xs
      have hb := Bool.or_eq_false_iff.mp f0
      have mk := (pmk_si (pos := pos') (p := p) S f3 f4 f5 (C.room.mono (Nat.zero_le _)) (gl_of C h1) f1 f2 (hf a) hb.1 (star_cons h2 [] X.env)).pmk
      refine PS.imp (ps_raiseB C.calm tk mk) fun E σ H ⟨F0, p0, F, ρ, K, si, hd, eo⟩ => ?_
      have hd : T.nm.lookup c = some .globalImplicit ∧ isStar a = false ∧ (match excF c T.fx with
        | some m => dE n T xk a ρ (frK fun d _ => xk ⟨c, [m], [d]⟩)
        | none => False) := hd
      rw [hm] at hd
      refine ⟨F, ρ, _, si.env, hd.2.2, fun r ρ1 v F1 H1 h1 q1 o1 => ?_⟩
      obtain ⟨d, ρ1', hz, h1⟩ := frK_inv h1
      obtain ⟨F1', q1', rp⟩ := o1.frz q1 hz
      intro dd hn
      refine hW ⟨c, [m], [d]⟩ _ _ σ F1' _ h1 (q1'.env.bas.trans (same_new hn)) (q1'.env.sub.trans (same_new hn)) ⟨rfl, .inr ⟨dd, [v], rfl, upd_same, rfl, .cons rp .nil⟩⟩
    · exact hc.elim
  · exact hc.elim
/-! ### try -/
theorem CtxOk.tr {κ : KB} {k : Nat} {X : Cx} {T : Tab} {B B' : Hp} {xk xk' : DX → Prop} (C : CtxOk κ k X T B xk) {pn : List (Addr × Obj)} {xe : Value → Shared → Prop} {W : WX} (tk : TakesB T.out (X.tr pn xe) W) (pa : PassesOwn (model X.prog X.w) X.A X.env xe)
    (h : ∀ x C dx σ F H, xk' x → Same B' H → Same F H → XRep κ F H x C dx → W C dx σ H) : CtxOk κ k (X.tr pn xe) T B' xk' where
  hK := C.hK
  hnd := C.hnd
  guards := C.guards
  room := C.room
  glb := fun x gv h => by
    have q := C.glb x gv h
    cases gv <;> exact q
  mth := fun c m sm h => C.mth c m sm h
  cmt := fun c m sm h => C.cmt c m sm h
  fld := C.fld
  isa := C.isa
  fxs := fun f h => by
    have q := C.fxs f h
    cases f <;> exact q
  hN := C.hN
  nd := C.nd
  nm := C.nm
  knd := C.knd
  calm := C.calm
  fnc := C.fnc
  co := C.co
  xs := ⟨W, tk, h⟩
  pas := pa
  stk := C.stk
def wEn (K : PySem.W.Frag) (c : Value) (en : Option Str) (i : Nat) (ts : Addr → Value → Option Addr → TS) (Wout : WX) (D : L2.Ends) : WX := match en with
  | some _ => wAs K c i ts Wout D
  | none => wOnly K c ts Wout D
theorem ps_tryB {X : Cx} {x : Str} {c : Value} {i : Nat} {body suite : List Stmt} {b₀ : Stmt} {np pos pos' : Pos} {tb : WX → TS} {ts : Addr → Value → Option Addr → TS} {Wout : WX} {cb : Bool} {en : Option Str}
    (hs : X.stack = X.env :: X.outer) (hf : X.env.frame = some X.env.locals) (hN : X.N.Nodup) (hi : ∀ y, en = some y → X.N[i]? = some y ∧ X.env.kindOf y = some .local) (hc : Names X x c) (tk : TakesB cb X Wout)
    (hb : ∀ (W : WX) (pn : List (Addr × Obj)) (xe : Value → Shared → Prop), TakesB cb (X.tr pn xe) W → PassesOwn (model X.prog X.w) X.A X.env xe → PSs (X.tr pn xe) body (tb W))
    (hsu : ∀ (a : Addr) (oe : Obj) (cls : Value) (d : Option Addr) (pn : List (Addr × Obj)), Zc cls d oe → (∃ vs, oe.data = .fields vs) → PSs (X.suite a ((a, oe) :: pn)) (b₀ :: suite) (ts a cls d)) :
    PS X (.Try body [.ExceptHandler (some (.Name x np)) en (b₀ :: suite) pos'] [] [] pos) (fun D σ H => tb (wEn X.K c en i ts Wout D) D σ H) := by
  cases cb with
  | true =>
    cases en with
    | some y => exact L2N.ps_try_as hs hf hN (hi y rfl).1 (hi y rfl).2 hc tk hb fun a oe cls d pn z => hsu a oe cls d pn z.zc
    | none => exact L2N.ps_try_many hs hf tk hb (.cons hc (fun a oe cls d pn z => hsu a oe cls d pn z.zc) .nil)
  | false =>
    cases en with
    | some y => exact L2.ps_try_as hs hf hN (hi y rfl).1 (hi y rfl).2 hc tk hb hsu
    | none => exact L2.ps_try_only hs hf hc tk hb hsu
theorem own_cls {κ : KB} {k : Nat} {X : Cx} {T : Tab} {B : Hp} {xk : DX → Prop} (C : CtxOk κ k X T B xk) {c c' : Str} (h : isOwn (clsT T c) = some c') : Names X c (.ref (He.ga κ.K c')) := by
  unfold isOwn at h
  split at h
  · rename_i c1 e
    cases h
    unfold clsT at e
    split at e
    · cases e
    · rename_i hb
      have hb : badName c = false := by simpa using hb
      split at e
      · rename_i hn
        refine ⟨gl_of C hn, (bad_inv hb).1, .inl ?_⟩
        split at e
        · rename_i c2 e2
          cases e
          obtain ⟨v, u, h1, h2, h3⟩ := C.glb c _ e2
          have hv : v = .ref (He.ga κ.K c') := h3 (fun _ => none)
          subst hv
          rw [h1]
          exact congrArg some h2
        · rename_i c2 sm e2
          cases e
          exact (C.glb c _ e2).1
        · cases e
        · cases e
      · cases e
  · cases h
/-- B and what is frozen by now -/
def uni (B F : Hp) : Hp := fun a => match F a with
  | some o => some o
  | none => B a
section
variable {κ : KB} {B F0 F H F' H' : Hp} {p0 : Addr} {σ σ' : L2.St} {ρ ρ' : Env'}
theorem uni_some {a : Addr} {o : HO} (h : F a = some o) : uni B F a = some o := by unfold uni; rw [h]
theorem uni_none {a : Addr} (h : F a = none) : uni B F a = B a := by unfold uni; rw [h]
theorem uni_F : Same F (uni B F) := fun a o h => uni_some h
theorem uni_B (sB : Same B H) (sF : Same F H) : Same B (uni B F) := fun a o h => by
  cases e : F a with
  | none => rw [uni_none e]; exact h
  | some o' =>
    rw [uni_some e]
    have h1 := sB a o h
    have h2 := sF a o' e
    rw [h1] at h2; cases h2; rfl
theorem uni_H (sB : Same B H) (sF : Same F H) : Same (uni B F) H := fun a o h => by
  cases e : F a with
  | none => rw [uni_none e] at h; exact sB a o h
  | some o' => rw [uni_some e] at h; cases h; exact sF a _ e
theorem SI.into (s : SI κ B F0 false p0 F H σ ρ) : SI κ (uni B F) F false p0 F H σ ρ :=
  ⟨⟨uni_H s.env.bas s.env.sub, s.env.sub, s.env.len, s.env.fr, fun i d h => by
    obtain ⟨p, a1, a2, a3, a4⟩ := s.env.ow i d h
    exact ⟨p, a1, a2, by rw [uni_none a2]; exact a3, a4⟩, s.env.dj⟩, Same.refl F, fun a h h' => absurd h h', s.sl⟩
theorem SI.outof (s : SI κ B F0 false p0 F H σ ρ) (t : SI κ (uni B F) F false p0 F' H' σ' ρ') : SI κ B F0 false p0 F' H' σ' ρ' := by
  have sB := uni_B s.env.bas s.env.sub
  refine ⟨⟨sB.trans t.env.bas, t.env.sub, t.env.len, t.env.fr, fun i d h => ?_, t.env.dj⟩, s.ex.trans t.ex, fun a h h' => ?_, fun z => by cases z⟩
  · obtain ⟨p, a1, a2, a3, a4⟩ := t.env.ow i d h
    exact ⟨p, a1, a2, sB.free a3, a4⟩
  · cases e : F a with
    | none => exact sB.free (t.nw a e h')
    | some o => exact s.nw a h (by rw [e]; simp)
/-- behind a suite: one name is known -/
theorem SI.forget (s : SI κ B F0 false p0 F H σ ρ) (sB : Same (uni B F) H') (hl : ρ'.length = σ'.length) (h : ∀ (i : Nat) (d : D), ρ'[i]? = some (some (.fr d)) → ∃ v, σ'[i]? = some (some v) ∧ Rep κ F d v) (h2 : ∀ (i : Nat) (d : D), ρ'[i]? ≠ some (some (.ow d))) : SI κ B F0 false p0 F H' σ' ρ' :=
  ⟨⟨(uni_B s.env.bas s.env.sub).trans sB, uni_F.trans sB, hl, h, fun i d z => absurd z (h2 i d), fun i j p d e z => absurd z (h2 i d)⟩, s.ex, s.nw, fun z => by cases z⟩
end
theorem SI.unset {κ : KB} {B F0 F H : Hp} {p0 : Addr} {σ : L2.St} {ρ : Env'} (s : SI κ B F0 false p0 F H σ ρ) {i : Nat} (h : ∀ z, ρ[i]? ≠ some (some z)) : SI κ B F0 false p0 F H (σ.set i none) ρ := by
  have ne : ∀ {j : Nat} {z : S}, ρ[j]? = some (some z) → i ≠ j := fun {j z} e q => h z (by rw [q]; exact e)
  refine s.slots ⟨s.env.bas, s.env.sub, by rw [List.length_set]; exact s.env.len, fun j d e => ?_, fun j d e => ?_, fun j j' p d1 d2 e e' q q' => ?_⟩ fun z => by cases z
  · rw [List.getElem?_set_ne (ne e)]; exact s.env.fr j d e
  · rw [List.getElem?_set_ne (ne e)]; exact s.env.ow j d e
  · rw [List.getElem?_set_ne (ne e)] at q
    rw [List.getElem?_set_ne (ne e')] at q'
    exact s.env.dj j j' p d1 d2 e e' q q'
theorem rep_none {n i : Nat} {x : Option S} (h : (List.replicate n (none : Option S))[i]? = some x) : x = none := by
  rw [List.getElem?_replicate] at h
  split at h
  · cases h; rfl
  · cases h
section
variable {κ : KB} {k : Nat} {X : Cx} {T : Tab} {B : Hp} {xk : DX → Prop} {n : Nat}
/-- a suite's reading -/
def tSu (κ : KB) (T : Tab) (en : Option Str) (i n : Nat) (suite : List Stmt) (N : List Str) (a : Addr) (cls : Value) (d : Option Addr) : TS := fun E σ H => σ.length = N.length → (en.isSome = true → σ[i]? = some (some (.ref a))) ∧ ∃ F x K, XRep κ F H x cls d ∧ dSuite T en x n suite K ∧
  (∀ j v, (en.isSome = true → j ≠ i) → flatD v = true → j < N.length → K.nx ((List.replicate T.N.length none).set j (some (.fr v))) → E.nx (σ.set j (some (vF v))) H) ∧ (∀ v, flatD v = true → K.rt v (List.replicate T.N.length none) → E.rt (vF v) H)
theorem su_ok (C : CtxOk κ k X T B xk) {en : Option Str} {i : Nat} {b₀ : Stmt} {suite : List Stmt} (hsl : exSlot T en = some i) (a : Addr) (oe : Obj) (cls : Value) (d : Option Addr) (pn : List (Addr × Obj)) (hz : Zc cls d oe) (hf : ∃ vs, oe.data = .fields vs) :
    PSs (X.suite a ((a, oe) :: pn)) (b₀ :: suite) (tSu κ T en i n (b₀ :: suite) X.N a cls d) := by
  have hm := (m_all (A' := X.A.mark (some (.ref a))) (cm := false) (pn := (a, oe) :: pn) (xe := fun _ _ => False) C (List.mem_cons_self ..) hz hf hsl n).1
  have hN : X.N.Nodup := by rw [C.hN]; exact C.nd
  have nope : (∀ (x : DX) (K : DEnds), ¬ dSuite T en x n (b₀ :: suite) K) → PSs (X.suite a ((a, oe) :: pn)) (b₀ :: suite) (tSu κ T en i n (b₀ :: suite) X.N a cls d) := fun h =>
    ⟨fun pins s σ H D I q => by
      obtain ⟨_, F, x, K, _, hd, _⟩ := q I.len
      exact (h x K hd).elim⟩
  by_cases hc : ∃ (x : DX) (K : DEnds), dSuite T en x n (b₀ :: suite) K
  case neg => exact nope fun x K z => hc ⟨x, K, z⟩
  obtain ⟨x0, K0, hc⟩ := hc
  unfold dSuite at hc
  split at hc
  · rename_i y py e pos heq
    cases heq
    obtain ⟨h1, hc⟩ := hc
    split at hc
    · rename_i j hj
      obtain ⟨hi, hx, hfn, h0⟩ := loc_inv C hj
      have hjl : j < X.N.length := by
        rcases List.getElem?_eq_some_iff.mp hi with ⟨z, _⟩
        exact z
      have ps : PS (X.suite a ((a, oe) :: pn)) (.Assign [.Name y py] e pos) (tAsg (tM κ en i a cls d fun x => mE T en x n e) (gName j)) := ps_set (X := X.suite a ((a, oe) :: pn)) hN hi hx (hm e) (sw_none h1.1 _ _ _) hfn
      refine ⟨fun pins s σ H D I q => (pss_cons ps pss_nil).run pins s σ H D I ?_⟩
      obtain ⟨hs, F, x, K, xr, hd, q1, _⟩ := q I.len
      have hji : en.isSome = true → j ≠ i := fun z q => by
        subst q
        cases en with
        | none => cases z
        | some y' =>
          obtain ⟨_, _, z3⟩ := exSlot_inv hsl
          have z4 := slotOf_get z3
          rw [← C.hN, hi] at z4
          cases z4
          simp at h1
      have hd : (isComp e = false ∧ (en == some y) = false) ∧ (match locSlot T false y with
        | some j => (match mE T en x n e with
          | some d => K.nx ((List.replicate T.N.length none).set j (some (.fr d)))
          | none => False)
        | none => False) := hd
      rw [hj] at hd
      have hd := hd.2
      dsimp only at hd
      split at hd
      · rename_i v hv
        exact ⟨hs, F, x, v, xr, hv, q1 j v hji (mE_flat n e v hv) hjl hd⟩
      · exact hd.elim
    · exact hc.elim
  · rename_i e pos heq
    cases heq
    refine ⟨fun pins s σ H D I q => (pss_cons (ps_ret (hm e)) pss_nil).run pins s σ H D I ?_⟩
    obtain ⟨hs, F, x, K, xr, hd, _, q2⟩ := q I.len
    have hd : (match mE T en x n e with
      | some d => K.rt d (List.replicate T.N.length none)
      | none => False) := hd
    split at hd
    · rename_i v hv
      exact ⟨hs, F, x, v, xr, hv, q2 v (mE_flat n e v hv) hd⟩
    · exact hd.elim
  · exact hc.elim
theorem s_try (C : CtxOk κ k X T B xk) (hst : T.stm = true) (ih : ∀ {X' : Cx} {B' : Hp} {xk' : DX → Prop}, CtxOk κ k X' T B' xk' → ∀ body, PSs X' body (tSs κ B' false (dS T false xk' n) body))
    {body : List Stmt} {c : Str} {en : Option Str} {b₀ : Stmt} {suite : List Stmt} {np pos' pos : Pos} :
    PS X (.Try body [.ExceptHandler (some (.Name c np)) en (b₀ :: suite) pos'] [] [] pos) (tS κ B false (fun ρ K => dTry T n (fun xk' ρ K => dSeq (dS T false xk' n) body ρ K) xk c en (b₀ :: suite) ρ K)) := by
  cases hcl : isOwn (clsT T c) with
  | none =>
    exact PS.no fun E σ H ⟨F0, p0, F, ρ, K, si, hd, eo⟩ => by
      unfold dTry at hd
      rw [hcl] at hd; exact hd
  | some c' =>
    cases hsl : exSlot T en with
    | none =>
      exact PS.no fun E σ H ⟨F0, p0, F, ρ, K, si, hd, eo⟩ => by
        unfold dTry at hd
        rw [hcl, hsl] at hd; exact hd
    | some i =>
      obtain ⟨hs, hf⟩ := C.stk hst
      have hN : X.N.Nodup := by rw [C.hN]; exact C.nd
      obtain ⟨W, tk, hW⟩ := C.xs
      refine PS.imp (ps_tryB (i := i) (en := en) (tb := fun W D σ H => ∃ (B' : Hp) (xk' : DX → Prop), (∀ x C dx σ F H, xk' x → Same B' H → Same F H → XRep κ F H x C dx → W C dx σ H) ∧ tSs κ B' false (dS T false xk' n) body D σ H)
        hs hf hN (fun y e => ?_) (own_cls C hcl) tk (fun W' pn xe tk' pa => ?_) (su_ok (n := n) C hsl)) fun E σ H ⟨F0, p0, F, ρ, K, si, hd, eo⟩ => ?_
      · subst e
        obtain ⟨h1, h2, h3⟩ := exSlot_inv hsl
        exact ⟨by rw [C.hN]; exact slotOf_get h3, by show X.env.scope.names.lookup y = _; rw [C.nm]; exact h2⟩
      · exact ⟨fun pins s σ H D I ⟨B', xk', h1, h2⟩ => (ih (C.tr tk' pa h1) body).run pins s σ H D I h2⟩
      · unfold dTry at hd
        rw [hcl, hsl] at hd
        dsimp only at hd
        refine ⟨uni B F, _, ?_, F, p0, F, ρ, K, si.into, hd, ⟨fun ρ' σ' F' H' hk s' => eo.nx ρ' σ' F' H' hk (si.outof s'), fun ρ' σ' F' H' hk s' => eo.bk ρ' σ' F' H' hk (si.outof s'), fun ρ' σ' F' H' hk s' => eo.ct ρ' σ' F' H' hk (si.outof s'), fun d ρ' v σ' F' H' hk s' rp => eo.rt d ρ' v σ' F' H' hk (si.outof s') rp⟩⟩
        intro x Cv dx σ1 F1 H1 hx sB sF xr
        have sB0 : Same B H1 := (uni_B si.env.bas si.env.sub).trans sB
        have hex : ∀ b, exmF x.c c' T.fx = some b → PySem.W.exmOne X.K Cv (.ref (He.ga κ.K c')) = some b := fun b e => by
          have := C.fxs _ (exmF_mem e)
          rw [xr.1]
          exact this
        -- the suite
        have su : ∀ (E' : L2.Ends) (σ2 : L2.St) (a : Addr), exmF x.c c' T.fx = some true → (σ2.length = X.N.length → en.isSome = true → σ2[i]? = some (some (.ref a))) →
            (∀ σ' F' H' ρ', (en.isSome = true → ∀ z, ρ'[i]? ≠ some (some z)) → K.nx ρ' → SI κ B F0 false p0 F' H' σ' ρ' → E'.nx σ' H') → (∀ d ρ' v σ' F' H', K.rt d ρ' → SI κ B F0 false p0 F' H' σ' ρ' → Rep κ F' d v → E'.rt v H') → tSu κ T en i n (b₀ :: suite) X.N a Cv dx E' σ2 H1 := fun E' σ2 a e hs2 n1 n2 hl => by
          have hx : (match exmF x.c c' T.fx with
            | some true => dSuite T en x n (b₀ :: suite) K
            | some false => xk x
            | none => False) := hx
          rw [e] at hx
          have hl2 : ∀ {ρ' : Env'}, ρ'.length = T.N.length → ∀ {σ' : L2.St}, σ'.length = σ2.length → ρ'.length = σ'.length := fun {ρ'} h1 {σ'} h2 => by rw [h1, h2, hl, C.hN]
          refine ⟨hs2 hl, F1, x, K, xr, hx, fun j v hji fv hj hk => n1 _ F H1 _ (fun z w hw => ?_) hk (si.forget sB (hl2 (by simp) (by simp)) (fun m d hm => ?_) fun m d hm => ?_), fun v fv hk => n2 v _ (vF v) σ2 F H1 hk (si.forget sB (hl2 (by simp) rfl) (fun m d hm => ?_) fun m d hm => ?_) (flat_rep fv)⟩
          · rcases set_get hw with ⟨q, _⟩ | ⟨_, q⟩
            · exact hji z q.symm
            · cases rep_none q
          · rcases set_get hm with ⟨rfl, z⟩ | ⟨ne, z⟩
            · cases z
              exact ⟨vF v, by rw [List.getElem?_set_self (by rw [hl]; exact hj)], flat_rep fv⟩
            · cases rep_none z
          · rcases set_get hm with ⟨rfl, z⟩ | ⟨ne, z⟩
            · cases z
            · cases rep_none z
          · cases rep_none hm
          · cases rep_none hm
        have hno : exmF x.c c' T.fx = some false → W Cv dx σ1 H1 := fun e => by
          have hx : (match exmF x.c c' T.fx with
            | some true => dSuite T en x n (b₀ :: suite) K
            | some false => xk x
            | none => False) := hx
          rw [e] at hx
          exact hW x Cv dx σ1 F1 H1 hx sB0 sF xr
        cases he : exmF x.c c' T.fx with
        | none =>
          have hx : (match exmF x.c c' T.fx with
            | some true => dSuite T en x n (b₀ :: suite) K
            | some false => xk x
            | none => False) := hx
          rw [he] at hx; exact hx.elim
        | some b =>
          cases en with
          | none =>
            refine ⟨b, hex b he, fun z a na => ?_, fun z => hno (by rw [he, z])⟩
            subst z
            exact su E σ1 a he (fun _ z => by cases z) (fun σ' F' H' ρ' _ hk s' => eo.nx ρ' σ' F' H' hk s') fun d ρ' v σ' F' H' hk s' rp => eo.rt d ρ' v σ' F' H' hk s' rp
          | some y =>
            refine ⟨b, hex b he, fun z a na => ?_, fun z => hno (by rw [he, z])⟩
            subst z
            have hil : i < X.N.length := by
              obtain ⟨_, _, z3⟩ := exSlot_inv hsl
              have z4 := slotOf_get z3
              rw [← C.hN] at z4
              rcases List.getElem?_eq_some_iff.mp z4 with ⟨z, _⟩
              exact z
            refine su _ _ a he (fun hl _ => ?_) (fun σ' F' H' ρ' hz hk s' => eo.nx ρ' _ F' H' hk (s'.unset (hz rfl))) fun d ρ' v σ' F' H' hk s' rp => eo.rt d ρ' v σ' F' H' hk s' rp
            rw [List.length_set] at hl
            exact List.getElem?_set_self (by rw [hl]; exact hil)
end
theorem dS_try {T : Tab} {sf : Bool} {xk : DX → Prop} {n : Nat} {body : List Stmt} {hds : List ExceptHandler} {orelse fin : List Stmt} {pos : Pos} {ρ : Env'} {K : DEnds} (h : dS T sf xk (n + 1) (.Try body hds orelse fin pos) ρ K) :
    (sf = false ∧ T.stm = true) ∧ ∃ c np en b0 suite pos', hds = [.ExceptHandler (some (.Name c np)) en (b0 :: suite) pos'] ∧ orelse = [] ∧ fin = [] := by
  unfold dS at h
  split at h
  all_goals first
    | (rename_i heq; cases heq; exact ⟨h.1, _, _, _, _, _, _, rfl, rfl, rfl⟩)
    | (rename_i heq; cases heq; done)
    | exact h.elim
theorem s_all {κ : KB} {k : Nat} {sf : Bool} : ∀ (n : Nat) {X : Cx} {T : Tab} {B : Hp} {xk : DX → Prop}, CtxOk κ k X T B xk → ∀ (st : Stmt), PS X st (tS κ B sf (dS T sf xk n st))
  | 0, X, T, B, xk, C, st => PS.no fun E σ H ⟨F0, p0, F, ρ, K, si, hd, eo⟩ => by unfold dS at hd; exact hd
  | n + 1, X, T, B, xk, C, st => by
    obtain ⟨hf, ht⟩ := c_all n C
    have ih := s_seq (s_all (sf := sf) n C)
    cases st with
    | Raise eo co pos =>
      match eo, co with
      | some e, none => exact s_raise C hf
      | some _, some _ => exact PS.no fun E σ H ⟨F0, p0, F, ρ, K, si, hd, eo⟩ => hd
      | none, _ => exact PS.no fun E σ H ⟨F0, p0, F, ρ, K, si, hd, eo⟩ => hd
    | Pass pos => exact PS.imp ps_pass fun E σ H ⟨F0, p0, F, ρ, K, si, hd, eo⟩ => eo.nx _ _ F H hd si
    | Break pos => exact PS.imp ps_break fun E σ H ⟨F0, p0, F, ρ, K, si, hd, eo⟩ => eo.bk _ _ F H hd si
    | Continue pos => exact PS.imp ps_continue fun E σ H ⟨F0, p0, F, ρ, K, si, hd, eo⟩ => eo.ct _ _ F H hd si
    | Expr e pos =>
      cases hs : isStrC e with
      | true =>
        unfold isStrC at hs
        split at hs
        · exact PS.imp ps_doc fun E σ H ⟨F0, p0, F, ρ, K, si, hd, eo⟩ => eo.nx _ _ F H hd si
        · cases hs
      | false =>
        have d0 : ∀ ρ K, dS T sf xk (n + 1) (.Expr e pos) ρ K → isComp e = false ∧ dE n T xk e ρ fun r ρ1 => K.nx ρ1 := fun ρ K hd => by
          have hd : (match isStrC e with
            | true => K.nx ρ
            | false => isComp e = false ∧ dE n T xk e ρ fun r ρ1 => K.nx ρ1) := hd
          rw [hs] at hd; exact hd
        by_cases hc : isComp e = false
        · exact PS.imp (ps_expr (hf e) (sw_none hc _ _ _)) fun E σ H ⟨F0, p0, F, ρ, K, si, hd, eo⟩ => ⟨F, ρ, _, si.env, (d0 ρ K hd).2, fun r ρ1 v F1 H1 h1 p1 o1 => eo.nx _ _ F1 H1 h1 (si.post p1)⟩
        · exact PS.no fun E σ H ⟨F0, p0, F, ρ, K, si, hd, eo⟩ => hc (d0 ρ K hd).1
    | Return o pos =>
      cases o with
      | some e =>
        refine PS.imp (ps_ret (hf e)) fun E σ H ⟨F0, p0, F, ρ, K, si, hd, eo⟩ => ⟨F, ρ, _, si.env, hd, fun r ρ1 v F1 H1 h1 p1 o1 => ?_⟩
        obtain ⟨d, ρ1', hz, h1⟩ := frK_inv h1
        obtain ⟨F1', p1', rp⟩ := o1.frz p1 hz
        exact eo.rt d ρ1' v σ F1' H1 h1 (si.post p1') rp
      | none => exact PS.imp ps_retN fun E σ H ⟨F0, p0, F, ρ, K, si, hd, eo⟩ => eo.rt .non ρ .non σ F H hd si rfl
    | If c a b pos =>
      refine PS.imp (ps_if (ht c) (ih a) (ih b)) fun E σ H ⟨F0, p0, F, ρ, K, si, hd, eo⟩ => ⟨F, ρ, _, si.env, hd, fun t ρ1 F1 H1 h1 p1 => ?_⟩
      cases t with
      | true => exact ⟨F0, p0, F1, ρ1, K, si.post p1, h1, eo⟩
      | false => exact ⟨F0, p0, F1, ρ1, K, si.post p1, h1, eo⟩
    | Assign tgs e pos =>
      match tgs with
      | [] => exact PS.no fun E σ H ⟨F0, p0, F, ρ, K, si, hd, eo⟩ => hd
      | [tg] =>
        cases tg with
        | Name x py => exact s_set C
        | Attribute o m py => exact s_fld C
        | Tuple es kt pt => exact s_tup C
        | Subscript o i py => exact s_sub C
        | _ => exact PS.no fun E σ H ⟨F0, p0, F, ρ, K, si, hd, eo⟩ => hd
      | _ :: _ :: _ => exact PS.no fun E σ H ⟨F0, p0, F, ρ, K, si, hd, eo⟩ => hd
    | AugAssign tg op e pos =>
      cases tg with
      | Name x py => exact s_aug C
      | _ => exact PS.no fun E σ H ⟨F0, p0, F, ρ, K, si, hd, eo⟩ => hd
    | For tg it body orelse pos =>
      cases orelse with
      | nil => exact s_for C (ih body)
      | cons _ _ => exact PS.no fun E σ H ⟨F0, p0, F, ρ, K, si, hd, eo⟩ => hd
    | While c body orelse pos =>
      cases orelse with
      | nil => exact s_while C (ih body)
      | cons _ _ => exact PS.no fun E σ H ⟨F0, p0, F, ρ, K, si, hd, eo⟩ => hd
    | Try body hds orelse fin pos =>
      by_cases hc : sf = false ∧ T.stm = true
      · obtain ⟨rfl, hst⟩ := hc
        by_cases hsh : ∃ c np en b0 suite pos', hds = [.ExceptHandler (some (.Name c np)) en (b0 :: suite) pos'] ∧ orelse = [] ∧ fin = []
        · obtain ⟨c, np, en, b0, suite, pos', rfl, rfl, rfl⟩ := hsh
          exact PS.imp (s_try (n := n) C hst fun C' => s_seq (s_all n C')) fun E σ H ⟨F0, p0, F, ρ, K, si, hd, eo⟩ => ⟨F0, p0, F, ρ, K, si, hd.2, eo⟩
        · exact PS.no fun E σ H ⟨F0, p0, F, ρ, K, si, hd, eo⟩ => hsh (dS_try hd).2
      · exact PS.no fun E σ H ⟨F0, p0, F, ρ, K, si, hd, eo⟩ => hc (dS_try hd).1
    | _ => exact PS.no fun E σ H ⟨F0, p0, F, ρ, K, si, hd, eo⟩ => hd
end DL

set_option Elab.async false
set_option linter.all false
set_option maxRecDepth 100000
set_option maxHeartbeats 1000000
/-! DL16: defs. -/
namespace DL
open PySem PySem.Spec PyProof.Rows L2

/-- what the module's names are -/
structure TabG (κ : KB) (k : Nat) (P : Program) (w : World) (mg : Str → Option Value) (base : Heap) (T : Tab) : Prop where
  glb : ∀ x gv, T.g.lookup x = some gv → ∀ X : Cx, X.prog = P → X.w = w → X.K = κ.K → X.mg = mg → X.base = base → GOk κ k X T.cold x gv
  mth : ∀ c m sm, T.ms.lookup (c, m) = some sm → ∀ X : Cx, X.prog = P → X.w = w → X.K = κ.K → X.mg = mg → X.base = base → MOk κ k X T.cold c m sm
  cmt : ∀ c m sm, T.cm.lookup (c, m) = some sm → ∀ X : Cx, X.prog = P → X.w = w → X.K = κ.K → X.mg = mg → X.base = base → CMOk κ k X T.cold c m sm
  fld : ∀ c m, T.fls.contains (c, m) = true → Cls κ.K (He.ga κ.K c) ∧ NoAttr κ.K (He.ga κ.K c) m
  nd : κ.nd = ndP P w
  isa : ∀ t c b, T.isa.lookup (t, c) = some b → PySem.W.kitOne κ.K (tyVal κ t) (tyVal κ c) = some b ∧ ∀ c', t = .inr c' → ClsI κ.K (He.ga κ.K c')
  fxs : ∀ f, T.fx.contains f = true → ∀ X : Cx, X.K = κ.K → X.prog = P → X.mg = mg → FxOk κ X f
/-- the table of a def -/
def Tab.at (T : Tab) (N : List Str) (sc : Scope) : Tab := { T with N := N, nm := sc.names, fn := fun _ => true }
def startE (N : List Str) (ds : List D) : Env' := ds.map (fun d => some (.fr d)) ++ List.replicate (N.length - ds.length) none
/-- what a def does -/
def semF (T : Tab) (n : Nat) (N ps : List Str) (sc : Scope) (body : List Stmt) : Sm := fun ds kd kx => ds.length = ps.length ∧ dSeq (dS (T.at N sc) false kx n) body (startE N ds) { nx := fun _ => kd .non, rt := fun d _ => kd d }
def endI (c : Str) (ρ : Env') (kd : D → Prop) : Prop := match (ρ[0]? : Option (Option S)) with
  | some (some (.ow (.obj c' ns xs))) => c' = c ∧ kd (.obj c ns xs)
  | _ => False
def startI (c : Str) (N : List Str) (ds : List D) : Env' := some (.ow (.obj c [] [])) :: (ds.map (fun d => some (.fr d)) ++ List.replicate (N.length - (ds.length + 1)) none)
/-- what an __init__ does -/
def semI (c : Str) (T : Tab) (n : Nat) (N ps : List Str) (sc : Scope) (body : List Stmt) : Sm := fun ds kd kx => ds.length + 1 = ps.length ∧ dSeq (dS (T.at N sc) true kx n) body (startI c N ds) { nx := fun ρ => endI c ρ kd, rt := fun d ρ => isNon d = true ∧ endI c ρ kd }

section
variable {κ : KB} {k : Nat} {P : Program} {w : World} {mg : Str → Option Value} {base : Heap} {T : Tab} {N ps : List Str} {qual : Str} {scope : Scope} {f : Addr} {cdv : Value} {A : Around} {outer : List Env} {s : Shared} {H : Hp} {E : XK}
theorem ctx_of (G : TabG κ k P w mg base T) (co : T.out = true → T.cold = true) (S : FnScope N ps scope) (hr : Room k (A.deeper (envOfC qual scope s.heap.objs.size f cdv))) (hg : A.guards = some []) {B : Hp} {kx : DX → Prop}
    (hE : ∀ x C dx F' H', kx x → Same B H' → Same F' H' → XRep κ F' H' x C dx → E C dx H') :
    CtxOk κ k (cxOf (CXb T.out P w) P w κ.K mg base N qual scope f cdv A outer s H E) (T.at N scope) B kx where
  hK := rfl
  hnd := G.nd
  guards := hg
  room := hr
  glb := fun x gv h => G.glb x gv h _ rfl rfl rfl rfl rfl
  mth := fun c m sm h => G.mth c m sm h _ rfl rfl rfl rfl rfl
  cmt := fun c m sm h => G.cmt c m sm h _ rfl rfl rfl rfl rfl
  fld := G.fld
  isa := G.isa
  fxs := fun f h => G.fxs f h _ rfl rfl rfl
  hN := rfl
  nd := S.nd
  nm := rfl
  knd := S.kind
  calm := rfl
  fnc := fun _ _ _ => rfl
  co := co
  xs := ⟨fun cls d _ H => E cls d H, by
    show TakesB T.out _ _
    cases T.out with
    | true => exact L2N.takes_of rfl rfl rfl rfl
    | false => exact takes_of rfl rfl rfl rfl, fun x C dx σ F H h1 h2 h3 h4 => hE x C dx F H h1 h2 h3 h4⟩
  pas := passes_of rfl
  stk := fun _ => ⟨rfl, rfl⟩
theorem start_get {ds : List D} {vs : List V} {F : Hp} {m : Nat} : ∀ {i : Nat} {d : D}, RepL κ F ds vs → (ds.map (fun d => some (S.fr d)) ++ List.replicate m none)[i]? = some (some (.fr d)) → ∃ v, (vs.map some ++ List.replicate m none)[i]? = some (some v) ∧ Rep κ F d v := fun {i d} r h => by
  have hl := r.len
  by_cases hi : i < ds.length
  · rw [List.getElem?_append_left (by simpa using hi), List.getElem?_map] at h
    cases e : ds[i]? with
    | none => rw [e] at h; cases h
    | some d' =>
      rw [e] at h
      cases h
      obtain ⟨v, h1, h2⟩ := r.get e
      exact ⟨v, by rw [List.getElem?_append_left (by simpa [← hl] using hi), List.getElem?_map, h1]; rfl, h2⟩
  · rw [List.getElem?_append_right (by simpa using hi)] at h
    rw [List.getElem?_replicate] at h
    split at h <;> cases h
theorem start_noOw {ds : List D} {m i : Nat} {d : D} (h : (ds.map (fun d => some (S.fr d)) ++ List.replicate m none)[i]? = some (some (.ow d))) : False := by
  by_cases hi : i < ds.length
  · rw [List.getElem?_append_left (by simpa using hi), List.getElem?_map] at h
    cases e : ds[i]? with
    | none => rw [e] at h; cases h
    | some d' => rw [e] at h; cases h
  · rw [List.getElem?_append_right (by simpa using hi), List.getElem?_replicate] at h
    split at h <;> cases h
theorem env_start {ds : List D} {vs : List V} {F H : Hp} (N : List Str) (r : RepL κ F ds vs) (sF : Same F H) : EnvOk κ H F H (L2.start N vs) (startE N ds) where
  bas := Same.refl H
  sub := sF
  len := by unfold startE L2.start; rw [r.len]; simp [r.len]
  fr := fun i d h => by
    unfold startE at h
    unfold L2.start
    rw [← r.len]
    exact start_get r h
  ow := fun i d h => (start_noOw h).elim
  dj := fun i j p d e h => (start_noOw h).elim
end
section
variable {κ : KB} {k : Nat} {P : Program} {w : World} {mg : Str → Option Value} {base : Heap} {T : Tab} {N ps : List Str} {x qual : Str} {params : Arguments} {body : List Stmt} {scope : Scope} {dvs : List V} {kws : List (Str × V)} {f : Addr} {fd : FuncData}
theorem fn_sound (G : TabG κ k P w mg base T) (co : T.out = true → T.cold = true) (Fn : FunD κ.K x qual params body scope dvs kws f fd) (S : FnScope N ps scope) (n : Nat) : FnG P w κ.K mg base (CXb T.out P w) (k + 1) f fd ps (spOf κ (semF T n N ps scope body)) := by
  obtain ⟨oc, od, dV, kV, doc, pm, an, cdv, ct, osl, rfl, lk, hcd, _, _⟩ := Fn.ex
  refine fnG_of lk hcd S (fun vs H Q E ⟨F, ds, kd, kx, sF, rl, ⟨hl, _⟩, _⟩ => by rw [← rl.len]; exact hl) fun A outer s H vs Q E hr hg ⟨F, ds, kd, kx, sF, rl, ⟨hl, hd⟩, hQ, hE⟩ => ?_
  have C := ctx_of (E := E) (H := H) (outer := outer) (s := s) (cdv := cdv) (f := f) (qual := qual) G co S hr hg (B := H) (kx := kx) hE
  refine ⟨tSs κ H false (dS (T.at N scope) false kx n) body, s_seq (s_all n C) body, ?_⟩
  refine ⟨F, 0, F, startE N ds, _, ⟨env_start N rl sF, Same.refl F, fun a h h' => absurd h h', fun z => by cases z⟩, hd, ⟨?_, ?_, ?_, ?_⟩⟩
  · intro ρ' σ' F' H' hk si
    exact hQ .non .non F' H' hk si.env.bas si.ex si.env.sub si.nw rfl
  · intro ρ' σ' F' H' hk si
    exact hk.elim
  · intro ρ' σ' F' H' hk si
    exact hk.elim
  · intro d ρ' v σ' F' H' hk si rp
    exact hQ d v F' H' hk si.env.bas si.ex si.env.sub si.nw rp
theorem init_sound {c : Str} (G : TabG κ k P w mg base T) (co : T.out = true → T.cold = true) (Fn : FunD κ.K x qual params body scope dvs kws f fd) (S : FnScope N ps scope) (n : Nat) : FnG P w κ.K mg base (CXb T.out P w) (k + 1) f fd ps (spIn κ c (semI c T n N ps scope body)) := by
  obtain ⟨oc, od, dV, kV, doc, pm, an, cdv, ct, osl, rfl, lk, hcd, _, _⟩ := Fn.ex
  refine fnG_of lk hcd S (fun vs H Q E ⟨p, dx, ws, F, ds, kd, kx, e, _, _, _, rl, ⟨hl, _⟩, _⟩ => by rw [e, List.length_cons, ← rl.len]; exact hl) fun A outer s H vs Q E hr hg ⟨p, dx, ws, F, ds, kd, kx, e, hp, hFp, sF, rl, ⟨hl, hd⟩, hQ, hE⟩ => ?_
  subst e
  have hB : ∀ {H' : Hp}, Same (fun a => if a = p then none else H a) H' → ∀ a o, a ≠ p → H a = some o → H' a = some o := fun {H'} sm a o ne h => sm a o (by simpa [ne] using h)
  have C := ctx_of (E := E) (H := H) (outer := outer) (s := s) (cdv := cdv) (f := f) (qual := qual) G co S hr hg (B := fun a => if a = p then none else H a) (kx := kx) fun x C dx F' H' h1 h2 h3 h4 => hE x C dx F' H' h1 (hB h2) h3 h4
  refine ⟨tSs κ (fun a => if a = p then none else H a) true (dS (T.at N scope) true kx n) body, s_seq (s_all n C) body, ?_⟩
  have hN : (List.replicate (N.length - (ds.length + 1)) (none : Option V)) = List.replicate (N.length - (V.ref p :: ws).length) none := by rw [List.length_cons, rl.len]
  have hst : L2.start N (.ref p :: ws) = some (.ref p) :: (ws.map some ++ List.replicate (N.length - (ds.length + 1)) none) := by
    unfold L2.start; rw [hN]; rfl
  have fin : ∀ ρ' σ' F' H', endI c ρ' kd → SI κ (fun a => if a = p then none else H a) F true p F' H' σ' ρ' → Q .non H' := fun ρ' σ' F' H' hk si => by
    unfold endI at hk
    split at hk
    · rename_i c' ns xs hz
      obtain ⟨rfl, hk⟩ := hk
      obtain ⟨q, a1, a2, a3, dx', us, b1, b2, b3⟩ := si.env.ow 0 _ hz
      rw [si.sl rfl] at a1; cases a1
      refine hQ ns xs F' H' us dx' hk (hB si.env.bas) si.ex si.env.sub a2 (fun a h h' => ?_) b1 b2 b3
      have z := si.nw a h h'
      by_cases e : a = p
      · subst e; exact absurd a2 h'
      · simpa [e] using z
    · exact hk.elim
  rw [hst]
  refine ⟨F, p, F, startI c N ds, _, ⟨⟨?_, sF, ?_, ?_, ?_, ?_⟩, Same.refl F, fun a h h' => absurd h h', fun z => rfl⟩, hd, ⟨?_, ?_, ?_, ?_⟩⟩
  · intro a o h
    by_cases e : a = p
    · simp [e] at h
    · simpa [e] using h
  · unfold startI; simp [rl.len]
  · intro i d h
    cases i with
    | zero => cases h
    | succ i => exact start_get rl h
  · intro i d h
    cases i with
    | zero =>
      cases h
      exact ⟨p, rfl, hFp, if_pos rfl, dx, [], hp, rfl, .nil⟩
    | succ i => exact (start_noOw h).elim
  · intro i j q d e h h' _ _
    cases i with
    | succ i => exact (start_noOw h).elim
    | zero =>
      cases j with
      | zero => rfl
      | succ j => exact (start_noOw h').elim
  · intro ρ' σ' F' H' hk si
    exact fin ρ' σ' F' H' hk si
  · intro ρ' σ' F' H' hk si
    exact hk.elim
  · intro ρ' σ' F' H' hk si
    exact hk.elim
  · intro d ρ' v σ' F' H' hk si rp
    cases d with
    | non =>
      have rp : v = .non := rp
      subst rp
      exact fin ρ' σ' F' H' hk.2 si
    | _ => cases hk.1
end
end DL

set_option Elab.async false
set_option linter.all false
set_option maxRecDepth 100000
set_option maxHeartbeats 1000000
/-! DL17: boxes. -/
namespace DL
open PySem PySem.Spec PyProof.Rows L2

/-! ### a def that changes its first argument -/
def startO (d : D) (N : List Str) (ds : List D) : Env' := some (.ow d) :: (ds.map (fun d => some (.fr d)) ++ List.replicate (N.length - (ds.length + 1)) none)
def endO (ρ : Env') (k : D → Prop) : Prop := match (ρ[0]? : Option (Option S)) with
  | some (some (.ow d)) => k d
  | _ => False
abbrev SmO := D → List D → (D → D → Prop) → (DX → Prop) → Prop
def semO (T : Tab) (n : Nat) (N ps : List Str) (sc : Scope) (body : List Stmt) : SmO := fun d0 ds kd kx => ds.length + 1 = ps.length ∧ dSeq (dS (T.at N sc) true kx n) body (startO d0 N ds) { nx := fun ρ => endO ρ (kd .non), rt := fun d ρ => endO ρ (kd d) }
def spOw (κ : KB) (sm : SmO) : Sp := fun vs H Q E => ∃ (p : Addr) (ws : List V) (F : Hp) (d0 : D) (ds : List D) (kd : D → D → Prop) (kx : DX → Prop), vs = .ref p :: ws ∧ OwnAt κ F H d0 p ∧ F p = none ∧ Same F H ∧ RepL κ F ds ws ∧ sm d0 ds kd kx ∧
  (∀ d v d' F' H', kd d d' → (∀ a o, a ≠ p → H a = some o → H' a = some o) → Same F F' → Same F' H' → F' p = none → (∀ a, F a = none → F' a ≠ none → H a = none) → OwnAt κ F' H' d' p → Rep κ F' d v → Q v H') ∧
  ∀ x C dx F' H', kx x → (∀ a o, a ≠ p → H a = some o → H' a = some o) → Same F' H' → XRep κ F' H' x C dx → E C dx H'
section
variable {κ : KB} {k : Nat} {P : Program} {w : World} {mg : Str → Option Value} {base : Heap} {T : Tab} {N ps : List Str} {x qual : Str} {params : Arguments} {body : List Stmt} {scope : Scope} {dvs : List V} {kws : List (Str × V)} {f : Addr} {fd : FuncData}
theorem own_sound (G : TabG κ k P w mg base T) (co : T.out = true → T.cold = true) (Fn : FunD κ.K x qual params body scope dvs kws f fd) (S : FnScope N ps scope) (n : Nat) : FnG P w κ.K mg base (CXb T.out P w) (k + 1) f fd ps (spOw κ (semO T n N ps scope body)) := by
  obtain ⟨oc, od, dV, kV, doc, pm, an, cdv, ct, osl, rfl, lk, hcd, _, _⟩ := Fn.ex
  refine fnG_of lk hcd S (fun vs H Q E ⟨p, ws, F, d0, ds, kd, kx, e, _, _, _, rl, ⟨hl, _⟩, _⟩ => by rw [e, List.length_cons, ← rl.len]; exact hl) fun A outer s H vs Q E hr hg ⟨p, ws, F, d0, ds, kd, kx, e, hp, hFp, sF, rl, ⟨hl, hd⟩, hQ, hE⟩ => ?_
  subst e
  have hB : ∀ {H' : Hp}, Same (fun a => if a = p then none else H a) H' → ∀ a o, a ≠ p → H a = some o → H' a = some o := fun {H'} sm a o ne h => sm a o (by simpa [ne] using h)
  have C := ctx_of (E := E) (H := H) (outer := outer) (s := s) (cdv := cdv) (f := f) (qual := qual) G co S hr hg (B := fun a => if a = p then none else H a) (kx := kx) fun x C dx F' H' h1 h2 h3 h4 => hE x C dx F' H' h1 (hB h2) h3 h4
  refine ⟨tSs κ (fun a => if a = p then none else H a) true (dS (T.at N scope) true kx n) body, s_seq (s_all n C) body, ?_⟩
  have hN : (List.replicate (N.length - (ds.length + 1)) (none : Option V)) = List.replicate (N.length - (V.ref p :: ws).length) none := by rw [List.length_cons, rl.len]
  have hst : L2.start N (.ref p :: ws) = some (.ref p) :: (ws.map some ++ List.replicate (N.length - (ds.length + 1)) none) := by
    unfold L2.start; rw [hN]; rfl
  have fin : ∀ d v ρ' σ' F' H', endO ρ' (kd d) → SI κ (fun a => if a = p then none else H a) F true p F' H' σ' ρ' → Rep κ F' d v → Q v H' := fun d v ρ' σ' F' H' hk si rp => by
    unfold endO at hk
    split at hk
    · rename_i d' hz
      obtain ⟨q, a1, a2, a3, a4⟩ := si.env.ow 0 _ hz
      rw [si.sl rfl] at a1; cases a1
      refine hQ d v d' F' H' hk (hB si.env.bas) si.ex si.env.sub a2 (fun a h h' => ?_) a4 rp
      have z := si.nw a h h'
      by_cases e : a = p
      · subst e; exact absurd a2 h'
      · simpa [e] using z
    · exact hk.elim
  rw [hst]
  refine ⟨F, p, F, startO d0 N ds, _, ⟨⟨?_, sF, ?_, ?_, ?_, ?_⟩, Same.refl F, fun a h h' => absurd h h', fun z => rfl⟩, hd, ⟨?_, ?_, ?_, ?_⟩⟩
  · intro a o h
    by_cases e : a = p
    · simp [e] at h
    · simpa [e] using h
  · unfold startO; simp [rl.len]
  · intro i d h
    cases i with
    | zero => cases h
    | succ i => exact start_get rl h
  · intro i d h
    cases i with
    | zero =>
      cases h
      exact ⟨p, rfl, hFp, if_pos rfl, hp⟩
    | succ i => exact (start_noOw h).elim
  · intro i j q d e h h' _ _
    cases i with
    | succ i => exact (start_noOw h).elim
    | zero =>
      cases j with
      | zero => rfl
      | succ j => exact (start_noOw h').elim
  · intro ρ' σ' F' H' hk si
    exact fin .non .non ρ' σ' F' H' hk si rfl
  · intro ρ' σ' F' H' hk si
    exact hk.elim
  · intro ρ' σ' F' H' hk si
    exact hk.elim
  · intro d ρ' v σ' F' H' hk si rp
    exact fin d v ρ' σ' F' H' hk si rp
end

/-! ### a box: three ints in a list -/
def bx3 (p : Addr) (h : Heap) : Prop := ∃ a b c : Int, lstP [.int a, .int b, .int c] p h
theorem bx3_stay {p : Addr} (h1 h2 : Heap) (x : bx3 p h1) (k : ∀ o, h1.get? p = some o → h2.get? p = some o) : bx3 p h2 := by
  obtain ⟨a, b, c, z, its, n, r, e⟩ := x
  exact ⟨a, b, c, z, its, n, r, k _ e⟩
section
variable {κ : KB} {k : Nat} {P : Program} {w : World} {mg : Str → Option Value} {base : Heap} {ps : List Str} {f : Addr} {fd : FuncData} {cb : Bool}
theorem upd_back {H : Hp} {p : Addr} {o u : HO} (hp : H p = some o) : upd (upd H p u) p o = H := by
  funext b
  by_cases e : b = p
  · subst e; rw [upd_same, hp]
  · rw [upd_ne e, upd_ne e]
theorem un_view {fs : List Addr} {H H' : Hp} {h h' : Heap} {p : Addr} {φ ψ : Heap → Prop} {u : HO} (un : Un fs [] (upd H p u) H' h h') (hp : H p = some (.ext φ)) : Un fs [] H (upd H' p (.ext ψ)) h h' where
  keep := fun b o e n => un.keep b o e (by rw [upd_ne (fun z => by rw [z, hp] at n; cases n)]; exact n)
  slot := fun b o e n => un.slot b o e (by rw [upd_ne (fun z => by rw [z, hp] at n; cases n)]; exact n)
  free := fun b o e n hx => by
    have ne : b ≠ p := fun z => by rw [z, hp] at n; cases n
    rw [upd_ne ne]
    exact un.free b o e (by rw [upd_ne ne]; exact n) hx
  there := un.there
  tups := fun b xs n => by
    have ne : b ≠ p := fun z => by rw [z, hp] at n; cases n
    rw [upd_ne ne]
    exact un.tups b xs (by rw [upd_ne ne]; exact n)
  frzs := fun b o q n => by
    have ne : b ≠ p := fun z => by rw [z, hp] at n; cases n
    rw [upd_ne ne]
    exact un.frzs b o q (by rw [upd_ne ne]; exact n)
  tbls := fun b q n => by
    have ne : b ≠ p := fun z => by rw [z, hp] at n; cases n
    rw [upd_ne ne]
    exact un.tbls b q (by rw [upd_ne ne]; exact n)
/-- a new object, its view exchanged -/
theorem un_new {fs : List Addr} {H H' : Hp} {h h' : Heap} {p : Addr} {o : HO} {u : HO} (un : Un fs [] H H' h h') (hp : H p = none) (hp' : H' p = some o) : Un fs [] H (upd H' p u) h h' where
  keep := un.keep
  slot := un.slot
  free := fun b o e n hx => by
    have q := un.free b o e n hx
    rw [upd_ne (fun z => by rw [z, hp'] at q; cases q)]
    exact q
  there := un.there
  tups := fun b xs n => by
    rw [upd_ne (fun z => by rw [z, hp] at n; cases n)]
    exact un.tups b xs n
  frzs := fun b o q n => by
    rw [upd_ne (fun z => by rw [z, hp] at n; cases n)]
    exact un.frzs b o q n
  tbls := fun b q n => by
    rw [upd_ne (fun z => by rw [z, hp] at n; cases n)]
    exact un.tbls b q n
def smTake : Sm := fun ds kd _ => ∃ n, ds = [.box 0, .int n] ∧ 0 < n ∧ n < 1073741824 ∧ ∀ j, 0 ≤ j → j < n → kd (.int j)
theorem take_sound {sm : SmO} (hbx : κ.bx 0 = bx3) (F : FnG P w κ.K mg base (CXb cb P w) k f fd ps (spOw κ sm)) (hl : ps.length = 2)
    (hsm : ∀ a b c n, 0 < n → n < 1073741824 → sm (.lst [.int a, .int b, .int c]) [.int n] (fun d d' => ∃ j a' b' c', d = .int j ∧ 0 ≤ j ∧ j < n ∧ d' = .lst [.int a', .int b', .int c']) (fun _ => False)) :
    FnG P w κ.K mg base (CXb cb P w) k f fd ps (spOf κ smTake) := by
  refine ⟨fun vs H Q E ⟨F, ds, kd, kx, sF, rl, ⟨n, e, _⟩, _⟩ => by rw [← rl.len, e, hl]; rfl, fun A outer s H args us vs Q E hr hg e0 hb rv ⟨Fz, ds, kd, kx, sF, rl, ⟨n, e, n0, n1, hk⟩, hQ, hE⟩ => ?_⟩
  subst e
  obtain ⟨v1, r1, rfl, q1, rl⟩ := rl.cons_inv
  obtain ⟨v2, r2, rfl, q2, rl⟩ := rl.cons_inv
  have e3 := rl.nil_inv
  subst e3
  unfold Rep at q1 q2
  obtain ⟨p, rfl, hp⟩ := q1
  subst q2
  have hpH := sF _ _ hp
  obtain ⟨x1, x2, x3⟩ := e0.hok p _ hpH
  rw [hbx] at x1
  obtain ⟨a, b, c, x1⟩ := x1
  have mu : Mut (H p) := by rw [hpH]; trivial
  have hok1 : HOk P w (upd H p (.lst [.int a, .int b, .int c])) s.heap := hok_view e0.hok mu x2 x1
  have hn0 : ∀ {bb : Addr}, H bb = none → upd H p (.lst [.int a, .int b, .int c]) bb = none := fun {bb} e => by rw [upd_ne (fun z => by rw [z, hpH] at e; cases e)]; exact e
  have e1 : Env0 P w κ.K mg base A outer s (upd H p (.lst [.int a, .int b, .int c])) := ⟨e0.frames, e0.mod, fun b o e => ⟨(e0.bs b o e).1, hn0 (e0.bs b o e).2⟩, e0.bsz, e0.funs, fun b hb => hn0 (e0.frf b hb), hok1, e0.bare⟩
  refine codeAny_mono (F.run A outer s (upd H p (.lst [.int a, .int b, .int c])) args us [.ref p, .int n] (fun v H' => ∃ j a' b' c', v = .int j ∧ 0 ≤ j ∧ j < n ∧ H' p = some (.lst [.int a', .int b', .int c']) ∧ ∀ bb o, bb ≠ p → H bb = some o → H' bb = some o) (fun _ _ _ => False) hr hg e1 hb rv ?_) fun r s' hq => ?_
  · refine ⟨p, [.int n], fun _ => none, .lst [.int a, .int b, .int c], [.int n], _, fun _ => False, rfl, ⟨_, upd_same, .cons rfl (.cons rfl (.cons rfl .nil))⟩, rfl, (fun _ _ z => by cases z), .cons rfl .nil, hsm a b c n n0 n1, fun d v d' F' H' hkd fr _ _ _ _ ow rp => ?_, fun _ _ _ _ _ z => z.elim⟩
    obtain ⟨j, a', b', c', rfl, j0, j1, rfl⟩ := hkd
    obtain ⟨ws, w1, w2⟩ := ow
    obtain ⟨y1, t1, rfl, z1, w2⟩ := w2.cons_inv
    obtain ⟨y2, t2, rfl, z2, w2⟩ := w2.cons_inv
    obtain ⟨y3, t3, rfl, z3, w2⟩ := w2.cons_inv
    have e4 := w2.nil_inv
    subst e4
    unfold Rep at z1 z2 z3 rp
    subst z1 z2 z3 rp
    exact ⟨j, a', b', c', rfl, j0, j1, w1, fun bb o ne h => fr bb o ne (by rw [upd_ne ne]; exact h)⟩
  · cases r with
    | error e =>
      obtain ⟨_, _, _, _, _, _, _, _, _, _, _, _, z⟩ := CXb.imp hq
      exact z.elim
    | ok fl =>
      cases fl with
      | ret u =>
        obtain ⟨v, H', os, bare, un, hok', rv', j, a', b', c', rfl, j0, j1, hp', same⟩ := hq
        have l1 := hok' p _ hp'
        obtain ⟨z, its, m, rr, eo⟩ := l1
        have nw : ObjOk P w (upd H' p (.ext (κ.bx 0 p))) s'.heap p (.ext (κ.bx 0 p)) := by
          rw [hbx]
          exact ⟨⟨a', b', c', z, its, m, rr, eo⟩, ⟨_, eo⟩, bx3_stay⟩
        have hS : Same H (upd H' p (.ext (κ.bx 0 p))) := fun bb o e => by
          by_cases eb : bb = p
          · subst eb; rw [upd_same]; rw [hpH] at e; exact e
          · rw [upd_ne eb]; exact same bb o eb e
        refine ⟨.int j, upd H' p (.ext (κ.bx 0 p)), os, bare, un_view un hpH, hok_view hok' (by rw [hp']; trivial) ⟨_, eo⟩ nw, rv', ?_⟩
        exact hQ (.int j) (.int j) Fz _ (hk j j0 j1) hS (Same.refl Fz) (sF.trans hS) (fun a h h' => absurd h h') rfl
      | next => exact hq
      | brk => exact hq
      | cont => exact hq
def smBox : Sm := fun ds kd _ => ∃ ns k, ds = [.scr ns, .int k] ∧ 0 ≤ k ∧ kd (.box 0)
theorem box_sound {sm : Sm} (hbx : κ.bx 0 = bx3) (F : FnG P w κ.K mg base (CXb cb P w) k f fd ps (spOf κ sm)) (hl : ps.length = 2)
    (hsm : ∀ ns k, 0 ≤ k → sm [.scr ns, .int k] (fun d => ∃ a b c, d = .lst [.int a, .int b, .int c]) (fun _ => False)) :
    FnG P w κ.K mg base (CXb cb P w) k f fd ps (spOf κ smBox) := by
  refine ⟨fun vs H Q E ⟨F, ds, kd, kx, sF, rl, ⟨n, k, e, _⟩, _⟩ => by rw [← rl.len, e, hl]; rfl, fun A outer s H args us vs Q E hr hg e0 hb rv ⟨Fz, ds, kd, kx, sF, rl, ⟨ns, k, e, k0, hk⟩, hQ, hE⟩ => ?_⟩
  subst e
  have rl0 := rl
  obtain ⟨v1, r1, rfl, q1, rl⟩ := rl.cons_inv
  obtain ⟨v2, r2, rfl, q2, rl⟩ := rl.cons_inv
  have e3 := rl.nil_inv
  subst e3
  unfold Rep at q1 q2
  obtain ⟨p, rfl, hp⟩ := q1
  subst q2
  refine codeAny_mono (F.run A outer s H args us [.ref p, .int k] (fun v H' => ∃ q a b c, v = .ref q ∧ H q = none ∧ H' q = some (.lst [.int a, .int b, .int c]) ∧ Same H H') (fun _ _ _ => False) hr hg e0 hb rv ?_) fun r s' hq => ?_
  · have key : ∀ (F0 : Hp), Same F0 H → ScrT κ.K F0 p (ns.map V.int) → (∀ q vs, F0 q ≠ some (.lst vs)) → (∀ q, F0 q ≠ none → ∃ o u, F0 q = some (.frz o u)) → spOf κ sm [.ref p, .int k] H (fun v H' => ∃ q a b c, v = .ref q ∧ H q = none ∧ H' q = some (.lst [.int a, .int b, .int c]) ∧ Same H H') (fun _ _ _ => False) := fun F0 sF0 hS nl nf => by
      refine ⟨F0, [.scr ns, .int k], _, fun _ => False, sF0, .cons (by unfold Rep; exact ⟨p, rfl, hS⟩) (.cons rfl .nil), hsm ns k k0, fun d v F' H' hkd s1 s2 s3 nw rp => ?_, fun _ _ _ _ _ z => z.elim⟩
      obtain ⟨a, b, c, rfl⟩ := hkd
      unfold Rep at rp
      obtain ⟨q, ws, rfl, hq, w2⟩ := rp
      obtain ⟨y1, t1, rfl, z1, w2⟩ := w2.cons_inv
      obtain ⟨y2, t2, rfl, z2, w2⟩ := w2.cons_inv
      obtain ⟨y3, t3, rfl, z3, w2⟩ := w2.cons_inv
      have e4 := w2.nil_inv
      subst e4
      unfold Rep at z1 z2 z3
      subst z1 z2 z3
      refine ⟨q, a, b, c, rfl, nw q ?_ (by rw [hq]; simp), s3 _ _ hq, s1⟩
      cases e : F0 q with
      | none => rfl
      | some o =>
        obtain ⟨o', u', e'⟩ := nf q (by rw [e]; simp)
        rw [s2 _ _ e'] at hq
        cases hq
    rcases hp with ⟨o, hp⟩ | hp
    · refine key (fun b => if b = p then some (.frz o (.lst (ns.map V.int))) else none) (fun b u e => ?_) (.inl ⟨o, if_pos rfl⟩) (fun q vs e => ?_) fun q e => ?_
      · by_cases eb : b = p
        · subst eb; simp at e; rw [← e]; exact sF _ _ hp
        · simp [eb] at e
      · by_cases eb : q = p
        · simp [eb] at e
        · simp [eb] at e
      · by_cases eb : q = p
        · exact ⟨o, _, if_pos eb⟩
        · simp [eb] at e
    · exact key (fun _ => none) (fun _ _ z => by cases z) (.inr hp) (fun _ _ z => by cases z) fun _ z => absurd rfl z
  · cases r with
    | error e =>
      obtain ⟨_, _, _, _, _, _, _, _, _, _, _, _, z⟩ := CXb.imp hq
      exact z.elim
    | ok fl =>
      cases fl with
      | ret u =>
        obtain ⟨v, H', os, bare, un, hok', rv', q, a', b', c', rfl, hq0, hp', same⟩ := hq
        have l1 := hok' q _ hp'
        obtain ⟨z, its, m, rr, eo⟩ := l1
        have nw : ObjOk P w (upd H' q (.ext (κ.bx 0 q))) s'.heap q (.ext (κ.bx 0 q)) := by
          rw [hbx]
          exact ⟨⟨a', b', c', z, its, m, rr, eo⟩, ⟨_, eo⟩, bx3_stay⟩
        have hS : Same H (upd H' q (.ext (κ.bx 0 q))) := fun bb o e => by
          rw [upd_ne (fun z => by rw [z, hq0] at e; cases e)]; exact same bb o e
        have hFq : Fz q = none := sF.free hq0
        refine ⟨.ref q, upd H' q (.ext (κ.bx 0 q)), os, bare, un_new un hq0 hp', hok_view hok' (by rw [hp']; trivial) ⟨_, eo⟩ nw, rv', ?_⟩
        refine hQ (.box 0) (.ref q) (upd Fz q (.ext (κ.bx 0 q))) _ hk hS (same_new hFq) (fun b o e => ?_) (fun b h h' => ?_) ?_
        · by_cases eb : b = q
          · subst eb; rw [upd_same] at e ⊢; exact e
          · rw [upd_ne eb] at e; exact hS b o (sF b o e)
        · by_cases eb : b = q
          · subst eb; exact hq0
          · rw [upd_ne eb] at h'; exact absurd h h'
        · unfold Rep; exact ⟨q, rfl, upd_same⟩
      | next => exact hq
      | brk => exact hq
      | cont => exact hq
end
end DL

set_option Elab.async false
set_option linter.all false
set_option maxRecDepth 100000
set_option maxHeartbeats 1000000
/-! DLr: the deal source. -/
namespace DL
open PySem PySem.Spec PyProof.Rows L2
def bxD (P : Program) (w : World) (q : Addr) (p : Addr) (h : Heap) : Prop := ∃ a b c : Int, ndP P w p srcKs (srcVs q a b c) h
theorem bxD_stay {P : Program} {w : World} {q p : Addr} (h1 h2 : Heap) (x : bxD P w q p h1) (k : ∀ o, h1.get? p = some o → h2.get? p = some o) : bxD P w q p h2 := by
  obtain ⟨a, b, c, x⟩ := x
  exact ⟨a, b, c, ndP_stay h1 h2 x k⟩
def smDraw : Sm := fun ds kd _ => ∃ n, ds = [.src, .int n] ∧ 0 < n ∧ n < 1073741824 ∧ ∀ j, 0 ≤ j → j < n → kd (.int j)
section
variable {κ : KB} {k : Nat} {P : Program} {w : World} {mg : Str → Option Value} {base : Heap} {ps : List Str} {f : Addr} {fd : FuncData} {cb : Bool}
theorem draw_sound {sm : SmO} (hbo : ∀ q : Nat, κ.bx (2 * q + 1) = bxI q) (hbe : ∀ q : Nat, κ.bx (2 * q + 2) = bxD P w q) (hnd : κ.nd = ndP P w) (F : FnG P w κ.K mg base (CXb cb P w) k f fd ps (spOw κ sm)) (hl : ps.length = 2)
    (hsm : ∀ kb a b c n, kb % 2 = 1 → 0 < n → n < 1073741824 → sm (.dic srcKs [.box kb, .int a, .int b, .int c]) [.int n] (fun d d' => ∃ j a' b' c', d = .int j ∧ 0 ≤ j ∧ j < n ∧ d' = .dic srcKs [.box kb, .int a', .int b', .int c']) (fun _ => False)) :
    FnG P w κ.K mg base (CXb cb P w) k f fd ps (spOf κ smDraw) := by
  refine ⟨fun vs H Q E ⟨F, ds, kd, kx, sF, rl, ⟨n, e, _⟩, _⟩ => by rw [← rl.len, e, hl]; rfl, fun A outer s H args us vs Q E hr hg e0 hb rv ⟨Fz, ds, kd, kx, sF, rl, ⟨n, e, n0, n1, hk⟩, hQ, hE⟩ => ?_⟩
  subst e
  obtain ⟨v1, r1, rfl, q1, rl⟩ := rl.cons_inv
  obtain ⟨v2, r2, rfl, q2, rl⟩ := rl.cons_inv
  have e3 := rl.nil_inv
  subst e3
  unfold Rep at q1 q2
  obtain ⟨p, q, rfl, hp, hq⟩ := q1
  subst q2
  have hpH := sF _ _ hp
  have hqH := sF _ _ hq
  obtain ⟨x1, x2, x3⟩ := e0.hok p _ hpH
  obtain ⟨y1, y2, y3⟩ := e0.hok q _ hqH
  rw [hbe] at x1
  rw [hbo] at y1
  obtain ⟨a, b, c, x1⟩ := x1
  have hpq : p ≠ q := fun z => by
    subst z
    obtain ⟨_, ns, _, its, m, _, eo⟩ := y1
    obtain ⟨_, _, _, us, _, o, es, ep, eo', _, dd, _⟩ := x1
    rw [eo] at eo'
    cases eo'
    cases dd
  have mu : Mut (H p) := by rw [hpH]; trivial
  have hok1 : HOk P w (upd H p (.ext (κ.nd p srcKs (srcVs q a b c)))) s.heap := hok_view e0.hok mu x2 ⟨by rw [hnd]; exact x1, x2, by rw [hnd]; exact ndP_stay⟩
  have hn0 : ∀ {bb : Addr}, H bb = none → upd H p (.ext (κ.nd p srcKs (srcVs q a b c))) bb = none := fun {bb} e => by rw [upd_ne (fun z => by rw [z, hpH] at e; cases e)]; exact e
  have e1 : Env0 P w κ.K mg base A outer s (upd H p (.ext (κ.nd p srcKs (srcVs q a b c)))) := ⟨e0.frames, e0.mod, fun b o e => ⟨(e0.bs b o e).1, hn0 (e0.bs b o e).2⟩, e0.bsz, e0.funs, fun b hb => hn0 (e0.frf b hb), hok1, e0.bare⟩
  refine codeAny_mono (F.run A outer s (upd H p (.ext (κ.nd p srcKs (srcVs q a b c)))) args us [.ref p, .int n] (fun v H' => ∃ j a' b' c' q', v = .int j ∧ 0 ≤ j ∧ j < n ∧ H' p = some (.ext (κ.nd p srcKs (srcVs q' a' b' c'))) ∧ H' q' = some (.ext (κ.bx (2 * q + 1) q')) ∧ ∀ bb o, bb ≠ p → H bb = some o → H' bb = some o) (fun _ _ _ => False) hr hg e1 hb rv ?_) fun r s' hq' => ?_
  · refine ⟨p, [.int n], fun x => if x = q then some (.ext (κ.bx (2 * q + 1) q)) else none, .dic srcKs [.box (2 * q + 1), .int a, .int b, .int c], [.int n], _, fun _ => False, rfl, ⟨_, upd_same, rfl, .cons (by unfold Rep; exact ⟨q, rfl, if_pos rfl⟩) (.cons rfl (.cons rfl (.cons rfl .nil)))⟩, if_neg hpq, (fun bb o z => ?_), .cons rfl .nil, hsm (2 * q + 1) a b c n (by omega) n0 n1, fun d v d' F' H' hkd fr _ s2 _ _ ow rp => ?_, fun _ _ _ _ _ z => z.elim⟩
    · have z : (if bb = q then some (HO.ext (κ.bx (2 * q + 1) q)) else none) = some o := z
      by_cases eb : bb = q
      · subst eb
        rw [if_pos rfl] at z
        cases z
        rw [upd_ne (Ne.symm hpq)]
        exact hqH
      · rw [if_neg eb] at z; cases z
    · obtain ⟨j, a', b', c', rfl, j0, j1, rfl⟩ := hkd
      obtain ⟨ws, w1, _, w2⟩ := ow
      obtain ⟨u1, t1, rfl, z1, w2⟩ := w2.cons_inv
      obtain ⟨u2, t2, rfl, z2, w2⟩ := w2.cons_inv
      obtain ⟨u3, t3, rfl, z3, w2⟩ := w2.cons_inv
      obtain ⟨u4, t4, rfl, z4, w2⟩ := w2.cons_inv
      have e4 := w2.nil_inv
      subst e4
      unfold Rep at z1 z2 z3 z4 rp
      subst z2 z3 z4 rp
      obtain ⟨q', rfl, hq'⟩ := z1
      exact ⟨j, a', b', c', q', rfl, j0, j1, w1, s2 _ _ hq', fun bb o ne h => fr bb o ne (by rw [upd_ne ne]; exact h)⟩
  · cases r with
    | error e =>
      obtain ⟨_, _, _, _, _, _, _, _, _, _, _, _, z⟩ := CXb.imp hq'
      exact z.elim
    | ok fl =>
      cases fl with
      | ret u =>
        obtain ⟨v, H', os, bare, un, hok', rv', j, a', b', c', q', rfl, j0, j1, hp', hqq, same⟩ := hq'
        obtain ⟨l1, l2, l3⟩ := hok' p _ hp'
        obtain ⟨m1, _, _⟩ := hok' q' _ hqq
        rw [hbo] at m1
        have eq : q' = q := m1.1
        subst eq
        have nw : ObjOk P w (upd H' p (.ext (κ.bx (2 * q' + 2) p))) s'.heap p (.ext (κ.bx (2 * q' + 2) p)) := by
          rw [hbe]
          rw [hnd] at l1
          exact ⟨⟨a', b', c', l1⟩, l2, bxD_stay⟩
        have hS : Same H (upd H' p (.ext (κ.bx (2 * q' + 2) p))) := fun bb o e => by
          by_cases eb : bb = p
          · subst eb; rw [upd_same]; rw [hpH] at e; exact e
          · rw [upd_ne eb]; exact same bb o eb e
        refine ⟨.int j, upd H' p (.ext (κ.bx (2 * q' + 2) p)), os, bare, un_view un hpH, hok_view hok' (by rw [hp']; trivial) l2 nw, rv', ?_⟩
        exact hQ (.int j) (.int j) Fz _ (hk j j0 j1) hS (Same.refl Fz) (sF.trans hS) (fun a h h' => absurd h h') rfl
      | next => exact hq'
      | brk => exact hq'
      | cont => exact hq'
def smDeal : Sm := fun ds kd _ => ∃ ns k, ds = [.scr ns, .int k] ∧ 0 ≤ k ∧ kd .src
theorem ints_of {F : Hp} : ∀ {gs : List Int} {ws : List V}, RepL κ F (gs.map D.int) ws → ws = gs.map V.int
  | [], ws, r => r.nil_inv
  | g :: gs, ws, r => by
    obtain ⟨v, t, rfl, z, r⟩ := r.cons_inv
    unfold Rep at z
    rw [z, ints_of r]; rfl
theorem deal_sound {sm : Sm} (hbo : ∀ q : Nat, κ.bx (2 * q + 1) = bxI q) (hbe : ∀ q : Nat, κ.bx (2 * q + 2) = bxD P w q) (hnd : κ.nd = ndP P w) (F : FnG P w κ.K mg base (CXb cb P w) k f fd ps (spOf κ sm)) (hl : ps.length = 2)
    (hsm : ∀ ns k, 0 ≤ k → sm [.scr ns, .int k] (fun d => ∃ (gs : List Int) (a b c : Int), d = .dic srcKs [.lst (gs.map D.int), .int a, .int b, .int c]) (fun _ => False)) :
    FnG P w κ.K mg base (CXb cb P w) k f fd ps (spOf κ smDeal) := by
  refine ⟨fun vs H Q E ⟨F, ds, kd, kx, sF, rl, ⟨n, k, e, _⟩, _⟩ => by rw [← rl.len, e, hl]; rfl, fun A outer s H args us vs Q E hr hg e0 hb rv ⟨Fz, ds, kd, kx, sF, rl, ⟨ns, k, e, k0, hk⟩, hQ, hE⟩ => ?_⟩
  subst e
  obtain ⟨v1, r1, rfl, q1, rl⟩ := rl.cons_inv
  obtain ⟨v2, r2, rfl, q2, rl⟩ := rl.cons_inv
  have e3 := rl.nil_inv
  subst e3
  unfold Rep at q1 q2
  obtain ⟨p0, rfl, hp⟩ := q1
  subst q2
  refine codeAny_mono (F.run A outer s H args us [.ref p0, .int k] (fun v H' => ∃ p q gs a b c, v = .ref p ∧ H p = none ∧ H q = none ∧ H' p = some (.ext (κ.nd p srcKs (srcVs q a b c))) ∧ H' q = some (.lst (List.map V.int gs)) ∧ Same H H') (fun _ _ _ => False) hr hg e0 hb rv ?_) fun r s' hq => ?_
  · have key : ∀ (F0 : Hp), Same F0 H → ScrT κ.K F0 p0 (ns.map V.int) → (∀ q, F0 q ≠ none → ∃ o u, F0 q = some (.frz o u)) → spOf κ sm [.ref p0, .int k] H (fun v H' => ∃ p q gs a b c, v = .ref p ∧ H p = none ∧ H q = none ∧ H' p = some (.ext (κ.nd p srcKs (srcVs q a b c))) ∧ H' q = some (.lst (List.map V.int gs)) ∧ Same H H') (fun _ _ _ => False) := fun F0 sF0 hS nf => by
      refine ⟨F0, [.scr ns, .int k], _, fun _ => False, sF0, .cons (by unfold Rep; exact ⟨p0, rfl, hS⟩) (.cons rfl .nil), hsm ns k k0, fun d v F' H' hkd s1 s2 s3 nw rp => ?_, fun _ _ _ _ _ z => z.elim⟩
      obtain ⟨gs, a, b, c, rfl⟩ := hkd
      unfold Rep at rp
      obtain ⟨p, ws, rfl, hp', _, w2⟩ := rp
      obtain ⟨y1, t1, rfl, z1, w2⟩ := w2.cons_inv
      obtain ⟨y2, t2, rfl, z2, w2⟩ := w2.cons_inv
      obtain ⟨y3, t3, rfl, z3, w2⟩ := w2.cons_inv
      obtain ⟨y4, t4, rfl, z4, w2⟩ := w2.cons_inv
      have e4 := w2.nil_inv
      subst e4
      unfold Rep at z1 z2 z3 z4
      subst z2 z3 z4
      obtain ⟨q, ws', rfl, hq', w3⟩ := z1
      have ew := ints_of w3
      subst ew
      have fresh : ∀ x u, F' x = some u → (∀ o v, u ≠ .frz o v) → H x = none := fun x u hx hu => by
        refine nw x ?_ (by rw [hx]; simp)
        cases e : F0 x with
        | none => rfl
        | some o =>
          obtain ⟨o', u', e'⟩ := nf x (by rw [e]; simp)
          rw [s2 _ _ e'] at hx
          cases hx
          exact absurd rfl (hu o' u')
      exact ⟨p, q, gs, a, b, c, rfl, fresh p _ hp' (fun _ _ z => nomatch z), fresh q _ hq' (fun _ _ z => nomatch z), s3 _ _ hp', s3 _ _ hq', s1⟩
    rcases hp with ⟨o, hp⟩ | hp
    · refine key (fun b => if b = p0 then some (.frz o (.lst (ns.map V.int))) else none) (fun b u e => ?_) (.inl ⟨o, if_pos rfl⟩) fun q e => ?_
      · by_cases eb : b = p0
        · subst eb; simp at e; rw [← e]; exact sF _ _ hp
        · simp [eb] at e
      · by_cases eb : q = p0
        · exact ⟨o, _, if_pos eb⟩
        · simp [eb] at e
    · exact key (fun _ => none) (fun _ _ z => by cases z) (.inr hp) fun _ z => absurd rfl z
  · cases r with
    | error e =>
      obtain ⟨_, _, _, _, _, _, _, _, _, _, _, _, z⟩ := CXb.imp hq
      exact z.elim
    | ok fl =>
      cases fl with
      | ret u =>
        obtain ⟨v, H', os, bare, un, hok', rv', p, q, gs, a, b, c, rfl, hp0, hq0, hp', hq', same⟩ := hq
        have hpq : p ≠ q := fun z => by rw [z, hq'] at hp'; cases hp'
        obtain ⟨l1, l2, _⟩ := hok' p _ hp'
        obtain ⟨z, its, m, rr, eo⟩ := hok' q _ hq'
        have nwq : ObjOk P w (upd H' q (.ext (κ.bx (2 * q + 1) q))) s'.heap q (.ext (κ.bx (2 * q + 1) q)) := by
          rw [hbo]
          exact ⟨⟨rfl, gs, z, its, m, rr, eo⟩, ⟨_, eo⟩, bxI_stay⟩
        have hok1 := hok_view hok' (by rw [hq']; trivial) ⟨_, eo⟩ nwq
        have hp1 : upd H' q (.ext (κ.bx (2 * q + 1) q)) p = some (.ext (κ.nd p srcKs (srcVs q a b c))) := by rw [upd_ne hpq]; exact hp'
        have nwp : ObjOk P w (upd (upd H' q (.ext (κ.bx (2 * q + 1) q))) p (.ext (κ.bx (2 * q + 2) p))) s'.heap p (.ext (κ.bx (2 * q + 2) p)) := by
          rw [hbe]
          rw [hnd] at l1
          exact ⟨⟨a, b, c, l1⟩, l2, bxD_stay⟩
        have hok2 := hok_view hok1 (by rw [hp1]; trivial) l2 nwp
        have hS : Same H (upd (upd H' q (.ext (κ.bx (2 * q + 1) q))) p (.ext (κ.bx (2 * q + 2) p))) := fun bb o e => by
          rw [upd_ne (fun z => by rw [z, hp0] at e; cases e), upd_ne (fun z => by rw [z, hq0] at e; cases e)]; exact same bb o e
        have hFp : Fz p = none := sF.free hp0
        have hFq : Fz q = none := sF.free hq0
        have sN : Same Fz (upd (upd Fz q (.ext (κ.bx (2 * q + 1) q))) p (.ext (κ.bx (2 * q + 2) p))) := (same_new hFq).trans (same_new (by rw [upd_ne hpq]; exact hFp))
        refine ⟨.ref p, _, os, bare, un_new (un_new un hq0 hq') hp0 hp1, hok2, rv', ?_⟩
        refine hQ .src (.ref p) (upd (upd Fz q (.ext (κ.bx (2 * q + 1) q))) p (.ext (κ.bx (2 * q + 2) p))) _ hk hS sN (fun b o e => ?_) (fun b h h' => ?_) ?_
        · by_cases eb : b = p
          · subst eb; rw [upd_same] at e ⊢; exact e
          · rw [upd_ne eb] at e ⊢
            by_cases eb2 : b = q
            · subst eb2; rw [upd_same] at e ⊢; exact e
            · rw [upd_ne eb2] at e ⊢; exact same b o (sF b o e)
        · by_cases eb : b = p
          · subst eb; exact hp0
          · rw [upd_ne eb] at h'
            by_cases eb2 : b = q
            · subst eb2; exact hq0
            · rw [upd_ne eb2] at h'; exact absurd h h'
        · unfold Rep; exact ⟨p, q, rfl, upd_same, by rw [upd_ne (Ne.symm hpq), upd_same]⟩
      | next => exact hq
      | brk => exact hq
      | cont => exact hq
end
/-- all kinds of boxes -/
def bxAll (P : Program) (w : World) (k : Nat) : Addr → Heap → Prop := if k = 0 then bx3 else if k % 2 = 1 then bxI (k / 2) else bxD P w (k / 2 - 1)
theorem bxAll_0 (P : Program) (w : World) : bxAll P w 0 = bx3 := rfl
theorem bxAll_odd (P : Program) (w : World) (q : Nat) : bxAll P w (2 * q + 1) = bxI q := by
  unfold bxAll
  rw [if_neg (by omega), if_pos (by omega), show (2 * q + 1) / 2 = q by omega]
theorem bxAll_even (P : Program) (w : World) (q : Nat) : bxAll P w (2 * q + 2) = bxD P w q := by
  unfold bxAll
  rw [if_neg (by omega), if_neg (by omega), show (2 * q + 2) / 2 - 1 = q by omega]
end DL

set_option Elab.async false
set_option linter.all false
set_option maxRecDepth 100000
set_option maxHeartbeats 1000000
/-! DL18: the head and the end of a law. -/
namespace DL
open PySem PySem.Spec PyProof.Rows L2

/-! ### more facts of the head -/
def tyK (K : PySem.W.Frag) : TyN → Value
  | .inl n => .type n
  | .inr c => .ref (He.ga K c)
inductive Fb where
  | strs (x : Str) (zs : List Str)
  | isi (t c : TyN) (b : Bool)
  | clsI (x : Str)
  | eqc (c : Str) (t : TyN)
  | exc (c f : Str) (kd : Nat) (qual file : Str)
  | xat (c f : Str)
  | isx (c : Str) (t : TyN) (b : Bool)
  | exm (c c' : Str) (b : Bool)
  | cmr (c m : Str)
  | inh (c b m : Str)
/-- the kinds of exceptions: the base's name, new, init, mro -/
def exB : Nat → String × String × String × List Value
  | 0 => ("ValueError", "ValueError.__new__", "ValueError.__init__", [.type "ValueError", .type "Exception", .type "BaseException", .type "object"])
  | _ => ("IndexError", "IndexError.__new__", "IndexError.__init__", [.type "IndexError", .type "LookupError", .type "Exception", .type "BaseException", .type "object"])
/-- the address of a class's __init__ -/
def initA (K : PySem.W.Frag) (c : Str) : Addr := match PySem.W.findIn K (.ref (He.ga K c)) "__init__" with
  | some (some (.ref a)) => a
  | _ => 0
def initFd (K : PySem.W.Frag) (c : Str) : Option FuncData := match K.lookup (initA K c) with
  | some ⟨_, _, .func fd, _⟩ => some fd
  | _ => none
/-- the code, the cell of __class__ -/
def exCells (K : PySem.W.Frag) (c : Str) : Option (Addr × Addr) := match initFd K c with
  | some fd => (match fd.code, fd.closure, fd.defaults, fd.kwdefaults with
    | .ref a, [(_, b)], .none, .none => some (a, b)
    | _, _, _, _ => none)
  | none => none
def exW (K : PySem.W.Frag) (c : Str) : He.FnW := match initFd K c with
  | some fd => some (fd.name, fd.qualname, fd.params, fd.body, fd.scope, fd.globals, fd.closure.map (fun p => (p.1, 0)), fd.builtins)
  | none => none
def exCode (K : PySem.W.Frag) (a : Addr) (file : Str) : Bool := match K.lookup a with
  | some ⟨_, _, .fields vs, _⟩ => (match (vs[2]? : Option Value) with
    | some (.str f _) => file == f
    | _ => false)
  | _ => false
def exCell (K : PySem.W.Frag) (a C : Addr) : Bool := match K.lookup a with
  | some ⟨_, _, .cell (some (.ref D)), _⟩ => decide (D = C)
  | _ => false
def exOk (K : PySem.W.Frag) (c f : Str) (kd : Nat) (qual file : Str) : Bool := match exCells K c with
  | none => false
  | some (ca, cb) =>
    [He.eqO (PySem.W.findIn K (.ref (He.ga K c)) "__init__") (some (some (.ref (initA K c)))), PySem.W.excInitIn K (He.ga K c) (exB kd).2.2.2 (exB kd).2.1, PySem.W.isFn K (.ref (initA K c)), PySem.W.codeIn K (.ref ca) qual,
    exCode K ca file, exCell K cb (He.ga K c), (PySem.W.clsIn K (He.ga K c)).isSome, decide (PySem.W.mroIn K (He.ga K c) (.ref (He.ga K c)) = some true), He.eqO (PySem.W.nsIn K cStatics "thirdparty.any") (some none),
    He.eqO (PySem.W.ks_superIn K (He.ga K c) (He.ga K c) "__init__") (some (some (.builtin (exB kd).2.2.1))), decide (PySem.W.subIn K (.ref (He.ga K c)) (.type (exB kd).1) = some true), He.eqO (PySem.W.findIn K (.ref (He.ga K c)) "__setattr__") (some (some (.builtin "object.__setattr__"))),
    PySem.W.excOver K (He.ga K c) (exB kd).2.2.2, He.eqO (PySem.W.takerIn K (He.ga K c) f) (some none), PySem.W.hasDictIn K (He.ga K c), decide (PySem.W.subIn K (.ref (He.ga K c)) (.type "BaseException") = some true), decide (PySem.W.typeIn K (.ref (He.ga K c)) = some (.type "type")),
    PySem.W.keepIn K (.ref (He.ga K c))].all id
def excC (K : PySem.W.Frag) (C : Addr) : Bool := He.eqO (PySem.W.findIn K (.ref C) "__getattribute__") (some (some (.builtin "BaseException.__getattribute__"))) && (He.eqO (PySem.W.findIn K (.ref C) "__getattr__") (some none) && (decide (PySem.W.subIn K (.ref C) (.type "BaseException") = some true) &&
  (PySem.W.hasDictIn K C && (He.eqO (PySem.W.findIn K (.ref C) "__class__") (some (some (.builtin "object.__class__"))) && (He.eqO (PySem.W.specialIn K (.builtin "object.__class__") "__get__") (some (some (.builtin "getset_descriptor.__get__"))) &&
  (decide (PySem.W.takesIn K (.builtin "object.__class__") = some true) && decide (PySem.W.mroIn K C (.type "object") = some true)))))))
theorem excC_ok {K : PySem.W.Frag} {C : Addr} (h : excC K C = true) : ExcC K C := by
  obtain ⟨h1, h⟩ := He.ba h
  obtain ⟨h2, h⟩ := He.ba h
  obtain ⟨h3, h⟩ := He.ba h
  obtain ⟨h4, h⟩ := He.ba h
  obtain ⟨h5, h⟩ := He.ba h
  obtain ⟨h6, h⟩ := He.ba h
  obtain ⟨h7, h8⟩ := He.ba h
  exact ⟨He.eqO_ok h1, He.eqO_ok h2, of_decide_eq_true h3, h4, He.eqO_ok h5, He.eqO_ok h6, of_decide_eq_true h7, of_decide_eq_true h8⟩
/-- an exception's __init__, as it is written -/
structure ExD where
  c : Str
  name : Str
  qual : Str
  params : Arguments
  body : List Stmt
  scope : Scope
def ExD.val (d : ExD) : He.FnW := some (d.name, d.qual, d.params, .stmts d.body, d.scope, mainGlobals, [("__class__", 0)], builtinsNs)
/-- the def of a class's method -/
def cmA (K : PySem.W.Frag) (p : Str × Option Str) : Addr := match p.2 with
  | some m => He5.wf K (He.ga K p.1) "classmethod" m
  | none => 0
def fnWA (K : PySem.W.Frag) (a : Addr) : He.FnW := match K.lookup a with
  | some ⟨_, _, .func fd, _⟩ => some (fd.name, fd.qualname, fd.params, fd.body, fd.scope, fd.globals, fd.closure, fd.builtins)
  | _ => none
def okA (K : PySem.W.Frag) (a : Addr) (d : He.DefD) : Bool := PySem.W.keepIn K (.ref a) && (match K.lookup a with
  | some ⟨_, _, .func fd, _⟩ => PySem.W.codeIn K fd.code d.qual && (He.dflB K fd.defaults (d.dvs K) && He.kwdB K fd.kwdefaults (d.kws K))
  | _ => false)
theorem funD_at {K : PySem.W.Frag} {a : Addr} {d : He.DefD} (e : fnWA K a = d.val) (c : okA K a d = true) : ∃ fd, FunD K d.name d.qual d.params d.body d.scope (d.dvs K) (d.kws K) a fd := by
  obtain ⟨kp, c2⟩ := He.ba c
  unfold fnWA at e
  cases q : K.lookup a with
  | none => rw [q] at c2; cases c2
  | some o =>
    obtain ⟨oc, od, dt, osl⟩ := o
    rw [q] at c2 e
    cases dt with
    | func fd =>
      obtain ⟨n1, n2, n3, n4, n5, n6, n7, n8, n9, n10, n11, n12, n13, n14, n15⟩ := fd
      have e2 : (some (n1, n2, n3, n4, n5, n6, n7, n15) : He.FnW) = some (d.name, d.qual, d.params, .stmts d.body, d.scope, mainGlobals, [], builtinsNs) := e
      simp only [Option.some.injEq, Prod.mk.injEq] at e2
      obtain ⟨g1, g2, g3, g4, g5, g6, g7, g8⟩ := e2
      subst g1 g2 g3 g4 g5 g6 g7 g8
      obtain ⟨k1, k2⟩ := He.ba (show (PySem.W.codeIn K n13 d.qual && (He.dflB K n8 (d.dvs K) && He.kwdB K n9 (d.kws K))) = true from c2)
      obtain ⟨k3, k4⟩ := He.ba k2
      exact ⟨_, ⟨oc, od, n8, n9, n10, n11, n12, n13, n14, osl, rfl, q, k1, He.dflB_ok k3, He.kwdB_ok k4⟩, kp⟩
    | _ => cases c2
def Fb.ok (K : PySem.W.Frag) : Fb → Bool
  | .strs x zs => He.tupB K x (zs.map He.Dv.str)
  | .isi t c b => decide (PySem.W.kitOne K (tyK K t) (tyK K c) = some b)
  | .clsI x => (He.Fa.cls x).ok K && (He.eqO (PySem.W.findIn K (.ref (He.ga K x)) "__class__") (some (some (.builtin "object.__class__"))) && (He.eqO (PySem.W.specialIn K (.builtin "object.__class__") "__get__") (some (some (.builtin "getset_descriptor.__get__"))) &&
      (decide (PySem.W.takesIn K (.builtin "object.__class__") = some true) && decide (PySem.W.mroIn K (He.ga K x) (.type "object") = some true))))
  | .eqc c t => PySem.W.notFirst K (He.ga K c) (tyK K t) && (He.eqO (PySem.W.findIn K (.ref (He.ga K c)) "__ne__") (some (some (.builtin "object.__ne__"))) && (decide (PySem.W.subIn K (.ref (He.ga K c)) (.type "object") = some true) &&
      (match t with
      | .inl n => decide (PySem.W.subIn K (.ref (He.ga K c)) (.type n) = some false)
      | .inr _ => true)))
  | .exc c f kd qual file => exOk K c f kd qual file
  | .xat c f => xfB K (He.ga K c) && He.eqO (PySem.W.findIn K (.ref (He.ga K c)) f) (some none)
  | .isx c t b => excC K (He.ga K c) && decide (PySem.W.kitOne K (.ref (He.ga K c)) (tyK K t) = some b)
  | .exm c c' b => decide (PySem.W.exmOne K (.ref (He.ga K c)) (.ref (He.ga K c')) = some b)
  | .cmr c m => PySem.W.readsIn K (He.ga K c) (.type "type") && (He.eqO (PySem.W.specialIn K (.ref (He.ga K c)) "__getattribute__") (some (some (.builtin "type.__getattribute__"))) && (He5.wrapB K (He.ga K c) "classmethod" "classmethod.__get__" m && PySem.W.fnIn K (He5.wf K (He.ga K c) "classmethod" m)))
  | .inh c b m => decide (He.ma K (He.ga K c) m = He.ma K (He.ga K b) m)
theorem clsI_ok {K : PySem.W.Frag} {x : Str} (h : (Fb.clsI x).ok K = true) : ClsI K (He.ga K x) := by
  obtain ⟨h1, h2⟩ := He.ba h
  obtain ⟨h2, h3⟩ := He.ba h2
  obtain ⟨h3, h4⟩ := He.ba h3
  obtain ⟨h4, h5⟩ := He.ba h4
  exact ⟨He.cls_ok h1, He.eqO_ok h2, He.eqO_ok h3, of_decide_eq_true h4, of_decide_eq_true h5⟩
def obsX (fa : List He.Fa) (fb : List Fb) (fn : List He.DefD) (ex : List ExD) (cs : List He.DefD) (K : PySem.W.Frag) : He.AlD := ((fa.all fun f => f.ok K) && ((fb.all fun f => f.ok K) && ((fn.all fun d => d.ok K) && cs.all fun d => okA K (cmA K d.at_) d)), (fn.map fun d => He.fnW K d.at_) ++ ((ex.map fun d => exW K d.c) ++ cs.map fun d => fnWA K (cmA K d.at_)))
def valX (fn : List He.DefD) (ex : List ExD) (cs : List He.DefD) : He.AlD := (true, fn.map He.DefD.val ++ (ex.map ExD.val ++ cs.map He.DefD.val))
def SaysX (fa : List He.Fa) (fb : List Fb) (fn : List He.DefD) (ex : List ExD) (cs : List He.DefD) (K : PySem.W.Frag) : Prop := obsX fa fb fn ex cs K = valX fn ex cs
def obsXG (n : Nat) (fa : List He.Fa) (fb : List Fb) (fn : List He.DefD) (ex : List ExD) (cs : List He.DefD) (g : Addr → Option Obj) : He.AlD := obsX fa fb fn ex cs (He.frG g (He.asD g n ++ [cStatics]))
def hookX (n : Nat) (fa : List He.Fa) (fb : List Fb) (fn : List He.DefD) (ex : List ExD) (cs : List He.DefD) : PySem.W.Hook where
  α := He.AlD
  obs := fun s => obsXG n fa fb fn ex cs s.heap.get?
  val := fun _ => valX fn ex cs
  says := fun _ h => ∃ K : PySem.W.Frag, K.In h ∧ SaysX fa fb fn ex cs K
  of := fun _ _ e => ⟨_, He.frG_in, e⟩
  keeps := fun _ _ _ ⟨K, hK, c⟩ k => ⟨K, PySem.W.Frag.In.keeps hK k, c⟩
theorem obsXG_eq {n : Nat} {fa : List He.Fa} {fb : List Fb} {fn : List He.DefD} {ex : List ExD} {cs : List He.DefD} {g : Addr → Option Obj} {s : Shared} (h : ∀ a, g a = s.heap.get? a) : obsXG n fa fb fn ex cs g = (hookX n fa fb fn ex cs).obs s := by
  have e : g = s.heap.get? := funext h
  rw [e] <;> rfl
section
variable {fa : List He.Fa} {fb : List Fb} {fn : List He.DefD} {ex : List ExD} {cs : List He.DefD} {K : PySem.W.Frag}
theorem SaysX.all (c : SaysX fa fb fn ex cs K) : (∀ f ∈ fa, f.ok K = true) ∧ (∀ f ∈ fb, f.ok K = true) ∧ (∀ d ∈ fn, d.ok K = true) ∧ ∀ d ∈ cs, okA K (cmA K d.at_) d = true := by
  obtain ⟨c1, c2⟩ := He.ba (show ((fa.all fun f => f.ok K) && ((fb.all fun f => f.ok K) && ((fn.all fun d => d.ok K) && cs.all fun d => okA K (cmA K d.at_) d))) = true from congrArg (fun z : He.AlD => z.1) c)
  obtain ⟨c2, c3⟩ := He.ba c2
  obtain ⟨c3, c4⟩ := He.ba c3
  exact ⟨List.all_eq_true.mp c1, List.all_eq_true.mp c2, List.all_eq_true.mp c3, List.all_eq_true.mp c4⟩
theorem SaysX.fact (c : SaysX fa fb fn ex cs K) (i : Nat) {f : He.Fa} (h : fa[i]? = some f := by rfl) : f.ok K = true := c.all.1 f (List.mem_of_getElem? h)
theorem SaysX.more (c : SaysX fa fb fn ex cs K) (i : Nat) {f : Fb} (h : fb[i]? = some f := by rfl) : f.ok K = true := c.all.2.1 f (List.mem_of_getElem? h)
theorem SaysX.vals (c : SaysX fa fb fn ex cs K) : (fn.map fun d => He.fnW K d.at_) = fn.map He.DefD.val ∧ (ex.map fun d => exW K d.c) = ex.map ExD.val ∧ (cs.map fun d => fnWA K (cmA K d.at_)) = cs.map He.DefD.val := by
  have e : (fn.map fun d => He.fnW K d.at_) ++ ((ex.map fun d => exW K d.c) ++ cs.map fun d => fnWA K (cmA K d.at_)) = fn.map He.DefD.val ++ (ex.map ExD.val ++ cs.map He.DefD.val) := congrArg (fun z : He.AlD => z.2) c
  obtain ⟨e1, e2⟩ := List.append_inj e (by simp)
  exact ⟨e1, List.append_inj e2 (by simp)⟩
theorem SaysX.def_ (c : SaysX fa fb fn ex cs K) (i : Nat) {d : He.DefD} (h : fn[i]? = some d := by rfl) : ∃ fd, FunD K d.name d.qual d.params d.body d.scope (d.dvs K) (d.kws K) (He.fAd K d.at_) fd := by
  have e := c.vals.1
  have e2 : (fn.map fun d => He.fnW K d.at_)[i]? = (fn.map He.DefD.val)[i]? := by rw [e]
  rw [List.getElem?_map, List.getElem?_map, h] at e2
  exact He.DefD.funD (Option.some.inj e2) (c.all.2.2.1 d (List.mem_of_getElem? h))
theorem SaysX.exc_ (c : SaysX fa fb fn ex cs K) (i : Nat) {d : ExD} (h : ex[i]? = some d := by rfl) : exW K d.c = d.val := by
  have e := c.vals.2.1
  have e2 : (ex.map fun d => exW K d.c)[i]? = (ex.map ExD.val)[i]? := by rw [e]
  rw [List.getElem?_map, List.getElem?_map, h] at e2
  exact Option.some.inj e2
theorem SaysX.cm_ (c : SaysX fa fb fn ex cs K) (i : Nat) {d : He.DefD} (h : cs[i]? = some d := by rfl) : ∃ fd, FunD K d.name d.qual d.params d.body d.scope (d.dvs K) (d.kws K) (cmA K d.at_) fd := by
  have e := c.vals.2.2
  have e2 : (cs.map fun d => fnWA K (cmA K d.at_))[i]? = (cs.map He.DefD.val)[i]? := by rw [e]
  rw [List.getElem?_map, List.getElem?_map, h] at e2
  exact funD_at (Option.some.inj e2) (c.all.2.2.2 d (List.mem_of_getElem? h))
end

/-! ### the end of a law -/
theorem law_callG {P : Program} {w : World} {κ : KB} {mg mb : Str → Option Value} {k : Nat} {fa a : Addr} {fd : FuncData} {x : Str} {sm : Sm} {s₁ : Shared} {vs : List Value} {ns : List Int}
    (KX : κ.K.In s₁.heap) (hns : s₁.heap.Ns mainGlobals mg) (hb : s₁.heap.Ns builtinsNs mb) (hbb : ∀ x : Str, x ≠ "__name__" → mb x = bootBuiltins x) (hlim : s₁.heap.NoLimit) (hg : s₁.gens = #[])
    (ha : s₁.heap.get? a = some { cls := .type "list", data := .seq vs.toArray }) (hi : IntsAre vs ns) (hl : ns.length ≤ sizeLine) (hr : Room k callerA)
    (Fn : ∀ base : Heap, κ.K.In base → base.Ns mainGlobals mg → FnG P w κ.K mg base (L2.CX P w) k fa fd [x] (spOf κ sm)) (hbind : ∀ (s : Shared) (u : Value), BindsTo s fd ⟨[u], []⟩ [(x, u)])
    (hsm : sm [.scr ns] (fun d => d = .bl true) (fun _ => False)) :
    codeAny (model P w) callerA (.call (.ref fa) ⟨[.ref a], []⟩) (fun r s' => r = .ok (.ret (.bool true)) ∧ OldK s₁.heap s'.heap ∧ s'.os = s₁.os ∧ AllBare s'.gens) s₁ := by
  have rv := vals_ints hi
  obtain ⟨H, hH, hS, hok, hK⟩ : ∃ H : Hp, (∀ b u, H b = some u → b = a ∧ u = .frz { cls := .type "list", data := .seq vs.toArray } (.lst (ns.map V.int))) ∧ ScrT κ.K H a (ns.map V.int) ∧ HOk P w H s₁.heap ∧ (H a ≠ none → κ.K.lookup a = none) := by
    cases hk : κ.K.lookup a with
    | some o =>
      have e := KX a o hk
      rw [ha] at e; cases e
      exact ⟨fun _ => none, (fun _ _ z => by cases z), .inr (.inr ⟨_, vs.toArray, _, hk, rfl, rfl, rfl, by rw [List.size_toArray, hi.length]; exact hl, by simpa using rv⟩), (fun _ _ z => by cases z), fun z => absurd rfl z⟩
    | none =>
      refine ⟨fun b => if b = a then some (.frz { cls := .type "list", data := .seq vs.toArray } (.lst (ns.map V.int))) else none, fun b u z => ?_, .inl ⟨_, if_pos rfl⟩, fun b u z => ?_, fun _ => rfl⟩
      · by_cases e : b = a
        · simp [e] at z; exact ⟨e, z.symm⟩
        · simp [e] at z
      · by_cases e : b = a
        · subst e
          simp at z; subst z
          exact ⟨ha, by rw [List.length_map]; exact hl, vs, _, rv, ha⟩
        · simp [e] at z
  have free : ∀ {b : Addr} {o : Obj}, s₁.heap.get? b = some o → (∀ vs' n, o.data ≠ .seq vs' n) → H b = none := fun {b o} e d => by
    cases q : H b with
    | none => rfl
    | some u =>
      obtain ⟨rfl, _⟩ := hH b u q
      rw [ha] at e; cases e
      exact absurd rfl (d _ _)
  have nsK : ∀ {b : Addr} {m : Str → Option Value}, s₁.heap.Ns b m → (hidT s₁.heap H).Ns b m := fun {b m} ⟨o, es, ep, e, d, r⟩ => ⟨o, es, ep, hidT_get e (free e fun _ _ z => by rw [d] at z; cases z), d, r⟩
  have hKb : κ.K.In (hidT s₁.heap H) := fun b o e => hidT_get (KX b o e) (by
    cases q : H b with
    | none => rfl
    | some u =>
      obtain ⟨rfl, _⟩ := hH b u q
      rw [hK (by rw [q]; simp)] at e; cases e)
  have hM : Mod κ.K mg (hidT s₁.heap H) := ⟨hKb, nsK hns, ⟨mb, nsK hb, hbb⟩, let ⟨mc, h1, h2⟩ := hlim; ⟨mc, nsK h1, h2⟩⟩
  have e0 : Env0 P w κ.K mg (hidT s₁.heap H) callerA [] s₁ H := ⟨rfl, hM, fun b o e => of_hidT e, Nat.le_of_eq (hidT_size _ _), trivial, fun b hb => absurd (show b ∈ ([] : List Addr) from hb) (by simp), hok, .of_eq hg⟩
  refine codeAny_mono ((Fn _ hKb (nsK hns)).run callerA [] s₁ H ⟨[.ref a], []⟩ [.ref a] [.ref a] (fun v _ => v = .bl true) (fun _ _ _ => False) hr rfl e0 (hbind s₁ (.ref a)) (.cons rfl .nil) ?_) fun r s' h => ?_
  · refine ⟨H, [.scr ns], _, _, Same.refl H, .cons (by unfold Rep; exact ⟨a, rfl, hS⟩) .nil, hsm, fun d v F' H' hk _ _ _ _ rp => ?_, fun _ _ _ _ _ z => z.elim⟩
    subst hk
    exact rp
  · cases r with
    | error e =>
      obtain ⟨_, _, _, _, _, _, _, _, _, _, _, _, z⟩ := h
      exact z.elim
    | ok fl =>
      cases fl with
      | next => exact False.elim h
      | brk => exact False.elim h
      | cont => exact False.elim h
      | ret u =>
        obtain ⟨v, H', os, bare, un, hok', r', q⟩ := h
        have q' : v = .bl true := q
        subst q'
        obtain rfl : u = Value.bool true := r'
        refine ⟨rfl, OldK.of_keep fun b o e => ?_, os, bare⟩
        cases q : H b with
        | none => exact un.keep b o e q (by intro z; exact absurd (show b ∈ ([] : List Addr) from z) (by simp)) (by simp)
        | some u =>
          obtain ⟨rfl, rfl⟩ := hH b u q
          have z2 := un.frzs b _ _ q
          obtain ⟨e1, _⟩ := hok b _ q
          obtain ⟨e2, _⟩ := hok' b _ z2
          rw [e] at e1; cases e1
          exact e2
theorem walk_ofG {l : PySem.W.OpenLaw} {n k : Nat} {q : Program} {loose : List Str} {XP : (Str → Option Value) → Heap → Prop} {YP : World → Heap → Prop} {d : DefRec} {x : Str}
    (hn : l.most = some n) (hn2 : n ≤ sizeLine) (hdf : d.params.defaults = []) (hr : Room k callerA)
    (F : ∀ (w : World) (mg : Str → Option Value) (fa : Addr) (h : Heap), YP w h → h.Ns mainGlobals mg → mg d.name = some (.ref fa) →
      ∃ (κ : KB) (fd : FuncData) (sm : Sm), κ.K.In h ∧ (∀ (s : Shared) (u : Value), BindsTo s fd ⟨[u], []⟩ [(x, u)]) ∧ (∀ ns : List Int, ns.length ≤ n → sm [.scr ns] (fun d => d = .bl true) (fun _ => False)) ∧
        ∀ base : Heap, κ.K.In base → base.Ns mainGlobals mg → FnG l.prog w κ.K mg base (L2.CX l.prog w) k fa fd [x] (spOf κ sm)) :
    PySem.W.WalkO q loose XP YP l.row.toRowW d [] (fun f vs => PySem.call f vs) := by
  refine Att.attach_call hn hdf fun w s₀ s₁ mg mb fa o pm cd doc a vs ns G Y ho hd hcd hmg hobj hints hlen hg => ?_
  obtain ⟨κ, fd, sm, KX, hb, hsm, hF⟩ := F w mg fa _ Y G.T.g hmg
  exact law_callG KX G.T.g G.T.b G.T.builtins G.T.nolimit hg hobj hints (Nat.le_trans hlen hn2) hr hF hb (hsm ns hlen)
/-! ### the module's names -/
theorem funD_fn {K : PySem.W.Frag} {x qual : Str} {params : Arguments} {body : List Stmt} {scope : Scope} {dvs : List V} {kws : List (Str × V)} {f : Addr} {fd : FuncData} (F : FunD K x qual params body scope dvs kws f fd) : PySem.W.fnIn K f = true := by
  obtain ⟨oc, od, dV, kV, doc, pm, an, cdv, ct, osl, _, lk, _⟩ := F.ex
  unfold PySem.W.fnIn
  rw [lk]
section
variable {κ : KB} {k : Nat} {P : Program} {w : World} {mg : Str → Option Value} {base : Heap} {T : Tab}
/-- a table with nothing in it -/
def tab0 : Tab := ⟨[], [], [], [], [], [], [], fun _ => true, [], true, true, true⟩
instance : LawfulBEq TyN where
  eq_of_beq {a b} h := by
    match a, b, h with
    | .inl a, .inl b, h => exact congrArg _ (eq_of_beq (show (a == b) = true from h))
    | .inr a, .inr b, h => exact congrArg _ (eq_of_beq (show (a == b) = true from h))
    | .inl a, .inr b, h => exact absurd (show false = true from h) Bool.false_ne_true
    | .inr a, .inl b, h => exact absurd (show false = true from h) Bool.false_ne_true
  rfl {a} := by
    match a with
    | .inl a => exact (show (a == a) = true from beq_self_eq_true a)
    | .inr a => exact (show (a == a) = true from beq_self_eq_true a)
theorem lookup_cons_inv {α β : Type} [BEq α] [LawfulBEq α] {a x : α} {b y : β} {l : List (α × β)} (h : List.lookup a ((x, y) :: l) = some b) : (a = x ∧ b = y) ∨ List.lookup a l = some b := by
  rw [List.lookup_cons] at h
  cases e : a == x with
  | true => rw [e] at h; cases h; exact .inl ⟨eq_of_beq e, rfl⟩
  | false => rw [e] at h; exact .inr h
theorem TabG.nil (hnd : κ.nd = ndP P w) : TabG κ k P w mg base tab0 :=
  ⟨(fun _ _ h => by cases h), (fun _ _ _ h => by cases h), (fun _ _ _ h => by cases h), (fun _ _ h => by cases h), hnd, (fun _ _ _ h => by cases h), (fun _ h => by cases h)⟩
theorem GOk.mono {j : Nat} {X : Cx} {cb : Bool} {x : Str} {gv : GV} (h : j ≤ k) (g : GOk κ j X cb x gv) : GOk κ k X cb x gv := by
  cases gv with
  | fn sm => obtain ⟨a, fd, ps, j', h1, h2, h3, h4, h5⟩ := g; exact ⟨a, fd, ps, j', h1, h2, h3, h4, Nat.le_trans h5 h⟩
  | cls c sm => obtain ⟨h0, a, fd, ps, j', h1, h2, h4, h5⟩ := g; exact ⟨h0, a, fd, ps, j', h1, h2, h4, Nat.le_trans h5 h⟩
  | _ => exact g
theorem MOk.mono {j : Nat} {X : Cx} {cb : Bool} {c m : Str} {sm : Sm} (h : j ≤ k) (g : MOk κ j X cb c m sm) : MOk κ k X cb c m sm := by
  obtain ⟨f, fd, ps, j', h1, h2, h3, h4, h5, h6⟩ := g; exact ⟨f, fd, ps, j', h1, h2, h3, h4, Nat.le_trans h5 h, h6⟩
theorem CMOk.mono {j : Nat} {X : Cx} {cb : Bool} {c m : Str} {sm : Sm} (h : j ≤ k) (g : CMOk κ j X cb c m sm) : CMOk κ k X cb c m sm := by
  obtain ⟨mc, p, g, fd, ps, j', h1, h2, h3, h4, h5⟩ := g; exact ⟨mc, p, g, fd, ps, j', h1, h2, h3, h4, Nat.le_trans h5 h⟩
theorem TabG.mono {j : Nat} (h : j ≤ k) (G : TabG κ j P w mg base T) : TabG κ k P w mg base T :=
  ⟨fun x gv e X h1 h2 h3 h4 h5 => (G.glb x gv e X h1 h2 h3 h4 h5).mono h, fun c m sm e X h1 h2 h3 h4 h5 => (G.mth c m sm e X h1 h2 h3 h4 h5).mono h, fun c m sm e X h1 h2 h3 h4 h5 => (G.cmt c m sm e X h1 h2 h3 h4 h5).mono h, G.fld, G.nd, G.isa, G.fxs⟩
/-- one more name -/
theorem TabG.glo (G : TabG κ k P w mg base T) {x : Str} {gv : GV} (h : ∀ X : Cx, X.prog = P → X.w = w → X.K = κ.K → X.mg = mg → X.base = base → GOk κ k X T.cold x gv) : TabG κ k P w mg base { T with g := (x, gv) :: T.g } :=
  ⟨fun y gv' e => by
    have e : List.lookup y ((x, gv) :: T.g) = some gv' := e
    rcases lookup_cons_inv e with ⟨rfl, rfl⟩ | e
    · exact h
    · exact G.glb y gv' e, G.mth, G.cmt, G.fld, G.nd, G.isa, G.fxs⟩
theorem TabG.meth (G : TabG κ k P w mg base T) {c m : Str} {sm : Sm} (h : ∀ X : Cx, X.prog = P → X.w = w → X.K = κ.K → X.mg = mg → X.base = base → MOk κ k X T.cold c m sm) : TabG κ k P w mg base { T with ms := ((c, m), sm) :: T.ms } :=
  ⟨G.glb, fun c' m' sm' e => by
    have e : List.lookup (c', m') (((c, m), sm) :: T.ms) = some sm' := e
    rcases lookup_cons_inv e with ⟨e1, rfl⟩ | e
    · cases e1; exact h
    · exact G.mth c' m' sm' e, G.cmt, G.fld, G.nd, G.isa, G.fxs⟩
theorem TabG.field (G : TabG κ k P w mg base T) {c m : Str} (h : Cls κ.K (He.ga κ.K c) ∧ NoAttr κ.K (He.ga κ.K c) m) : TabG κ k P w mg base { T with fls := (c, m) :: T.fls } :=
  ⟨G.glb, G.mth, G.cmt, fun c' m' e => by
    have e : List.contains ((c, m) :: T.fls) (c', m') = true := e
    rw [List.contains_cons, Bool.or_eq_true] at e
    rcases e with e | e
    · have e := eq_of_beq e
      cases e; exact h
    · exact G.fld c' m' e, G.nd, G.isa, G.fxs⟩
theorem TabG.is (G : TabG κ k P w mg base T) {t c : TyN} {b : Bool} (h : (Fb.isi t c b).ok κ.K = true) (hc : ∀ c', t = .inr c' → ClsI κ.K (He.ga κ.K c')) : TabG κ k P w mg base { T with isa := ((t, c), b) :: T.isa } :=
  ⟨G.glb, G.mth, G.cmt, G.fld, G.nd, fun t' c' b' e => by
    have e : List.lookup (t', c') (((t, c), b) :: T.isa) = some b' := e
    rcases lookup_cons_inv e with ⟨e1, e2⟩ | e
    · cases e1
      refine ⟨?_, hc⟩
      rw [e2]
      have q := of_decide_eq_true (show decide (PySem.W.kitOne κ.K (tyK κ.K t) (tyK κ.K c) = some b) = true from h)
      have et : ∀ t, tyVal κ t = tyK κ.K t := fun t => by cases t <;> rfl
      rw [et, et]; exact q
    · exact G.isa t' c' b' e, G.fxs⟩
theorem TabG.fx (G : TabG κ k P w mg base T) {f : Fx} (h : ∀ X : Cx, X.K = κ.K → X.prog = P → X.mg = mg → FxOk κ X f) : TabG κ k P w mg base { T with fx := f :: T.fx } :=
  ⟨G.glb, G.mth, G.cmt, G.fld, G.nd, G.isa, fun f' e => by
    have e : List.contains (f :: T.fx) f' = true := e
    rw [List.contains_cons, Bool.or_eq_true] at e
    rcases e with e | e
    · cases eq_of_beq e; exact h
    · exact G.fxs f' e⟩
theorem TabG.xat (G : TabG κ k P w mg base T) {c f : Str} (h : (Fb.xat c f).ok κ.K = true) : TabG κ k P w mg base { T with fx := .xat c f :: T.fx } := G.fx fun X hK _ _ => by
  obtain ⟨h1, h2⟩ := He.ba h
  show XfC X.K _ ∧ _
  rw [hK]
  exact ⟨xfB_ok h1, He.eqO_ok h2⟩
theorem TabG.isx (G : TabG κ k P w mg base T) {c : Str} {t : TyN} {b : Bool} (h : (Fb.isx c t b).ok κ.K = true) : TabG κ k P w mg base { T with fx := .isx c t b :: T.fx } := G.fx fun X hK _ _ => by
  obtain ⟨h1, h2⟩ := He.ba h
  have et : ∀ t, tyVal κ t = tyK κ.K t := fun t => by cases t <;> rfl
  show ExcC X.K _ ∧ _
  rw [hK, et]
  exact ⟨excC_ok h1, of_decide_eq_true h2⟩
theorem TabG.exm (G : TabG κ k P w mg base T) {c c' : Str} {b : Bool} (h : (Fb.exm c c' b).ok κ.K = true) : TabG κ k P w mg base { T with fx := .exm c c' b :: T.fx } := G.fx fun X hK _ _ => by
  show PySem.W.exmOne X.K _ _ = _
  rw [hK]
  exact of_decide_eq_true h
/-- what is true of an exception's __init__ by its text alone -/
structure ExS (P : Program) (name qual : Str) (params : Arguments) (scope : Scope) (s x f : Str) (p0 p1 p2 p3 p4 p5 p6 p7 p8 p9 : Pos) : Prop where
  bind : ∀ (doc pm : Value) (an : Option Addr) (cda : Addr) (ct : Value) (cc : Addr) (a b : Value), bindArgs (PySem.W.ksFn name qual params (initB s x f p0 p1 p2 p3 p4 p5 p6 p7 p8 p9) scope .none .none doc pm an (.ref cda) ct cc) ⟨[a, b], []⟩ = pure [(s, a), (x, b)]
  par : ∃ ar, (params.posonlyargs ++ params.args).head? = some ar ∧ ar.arg = s
  ks : scope.names.lookup ("super" : Str) = some .globalImplicit
  kc : scope.names.lookup ("__class__" : Str) = some .free
  k1 : scope.names.lookup s = some .local
  k2 : scope.names.lookup x = some .local
  kk : scope.kind = .function
  nc : ∀ y ∈ scope.names, y.2 ≠ .cell
  co : scope.isCoroutine = false
  ge : scope.isGenerator = false
  top : (P.main.scope.names.lookup ("super" : Str)).isSome = false
  sx : s ≠ x
  intr : ∀ L fI cda cc, interactive (PySem.W.ksEnv qual scope L fI (.ref cda) cc) = false
  sw1 : ∀ L fI cda cc, swapsWith (.Call (.Attribute (.Call (.Name "super" p0) [] [] p1) "__init__" p2) [.Name x p3] [] p4) none p5.line (PySem.W.ksEnv qual scope L fI (.ref cda) cc) = pure false
  sw2 : ∀ L fI cda cc, swapsWith (.Name x p8) (some (.Attribute (.Name s p6) f p7)) p9.line (PySem.W.ksEnv qual scope L fI (.ref cda) cc) = pure false
  evc : ∀ fI cda cc, ∃ pl : Addr → Sem Bool, ∀ L, eval (.Call (.Attribute (.Call (.Name "super" p0) [] [] p1) "__init__" p2) [.Name x p3] [] p4) (PySem.W.ksEnv qual scope L fI (.ref cda) cc) = (do
      let ov ← attributeBase (.Call (.Name "super" p0) [] [] p1) "__init__" (PySem.W.ksEnv qual scope L fI (.ref cda) cc) (eval (.Call (.Name "super" p0) [] [] p1) (PySem.W.ksEnv qual scope L fI (.ref cda) cc))
      standAt p2.atName
      let (f, first) ← holding [ov] (getMethod ov "__init__" (pl L))
      callWith p4 f first (backTo p4 (starEach [.Name x p3] (PySem.W.ksEnv qual scope L fI (.ref cda) cc))) [])
  dbs : (s == ("__debug__" : Str)) = false
  dbx : (x == ("__debug__" : Str)) = false
theorem exB_ok (kd : Nat) : ExcBaseFacts (exB kd).1 (exB kd).2.1 (exB kd).2.2.1 (exB kd).2.2.2 ∧ PySem.W.KxsFacts (exB kd).1 (exB kd).2.2.1 ∧ StoreFacts (exB kd).1 (exB kd).2.2.2 "object.__setattr__" "object" := by
  cases kd with
  | zero => exact ⟨F.excBase_ValueError, PySem.W.kxs_ValueError, F.store_ValueError⟩
  | succ n => exact ⟨F.excBase_IndexError, PySem.W.kxs_IndexError, F.store_IndexError⟩
theorem exc_ok {h : Heap} (KX : κ.K.In h) (Gn : h.Ns mainGlobals mg) {c f : Str} {kd : Nat} {name qual file : Str} {params : Arguments} {scope : Scope} {s x : Str} {p0 p1 p2 p3 p4 p5 p6 p7 p8 p9 : Pos} (hc : badName c = false) (cg : (He.Fa.glo c).ok κ.K = true) (cs : (He.Fa.free "super").ok κ.K = true)
    (hb : (Fb.exc c f kd qual file).ok κ.K = true) (hw : exW κ.K c = some (name, qual, params, FuncBody.stmts (initB s x f p0 p1 p2 p3 p4 p5 p6 p7 p8 p9), scope, mainGlobals, [(("__class__" : Str), (0 : Addr))], builtinsNs)) (hfile : (P.main.file : Str) = file) (S : ExS P name qual params scope s x f p0 p1 p2 p3 p4 p5 p6 p7 p8 p9)
    (X : Cx) (hK : X.K = κ.K) (hP : X.prog = P) (hm : X.mg = mg) : FxOk κ X (.exc c f) := by
  have hb : exOk κ.K c f kd qual file = true := hb
  unfold exOk at hb
  cases hce : exCells κ.K c with
  | none => rw [hce] at hb; cases hb
  | some q =>
    obtain ⟨ca, cc⟩ := q
    rw [hce] at hb
    simp only [List.all_cons, List.all_nil, Bool.and_eq_true, id_eq, Bool.and_true] at hb
    obtain ⟨h1, h2, h3, h4, h5, h6, h7, h8, h9, h10, h11, h12, h13, h14, h15, h16, h17, h18⟩ := hb
    obtain ⟨b1, b2, b3⟩ := exB_ok kd
    unfold exW at hw
    unfold exCells at hce
    cases hfd : initFd κ.K c with
    | none => rw [hfd] at hw; cases hw
    | some fd =>
      rw [hfd] at hw hce
      dsimp only at hw hce
      have hfd' := hfd
      unfold initFd at hfd'
      split at hfd'
      · rename_i oc od fd' osl hlk
        cases hfd'
        obtain ⟨n1, n2, n3, n4, n5, n6, n7, n8, n9, n10, n11, n12, n13, n14, n15⟩ := fd
        dsimp only at hw hce
        simp only [Option.some.injEq, Prod.mk.injEq] at hw
        obtain ⟨e1, e2, e3, e4, e5, e6, e7, e8⟩ := hw
        subst e1 e2 e3 e4 e5 e6 e8
        split at hce
        · rename_i a nm b
          cases hce
          have enm : nm = ("__class__" : Str) := by simpa using e7
          subst enm
          have hcell : ∃ cl cld csl, κ.K.lookup cc = some ⟨cl, cld, .cell (some (.ref (He.ga κ.K c))), csl⟩ := by
            unfold exCell at h6
            split at h6
            · rename_i hq
              have := of_decide_eq_true h6
              subst this
              exact ⟨_, _, _, hq⟩
            · cases h6
          have hcode : ∃ ccl cdd vs ccs file' tf, κ.K.lookup ca = some ⟨ccl, cdd, .fields vs, ccs⟩ ∧ vs[2]? = some (.str file' tf) ∧ ((P.main.file : Str) == file') = true := by
            unfold exCode at h5
            split at h5
            · rename_i hq
              split at h5
              · rename_i hv
                exact ⟨_, _, _, _, _, _, hq, hv, by rw [hfile]; exact h5⟩
              · cases h5
            · cases h5
          refine ⟨hc, by rw [hm]; exact He.glo_ok KX Gn cg, by rw [hm]; exact He.free_ok KX Gn cs, by rw [hK]; exact of_decide_eq_true h16, by rw [hK]; exact of_decide_eq_true h17, by rw [hK]; exact h18, ?_⟩
          rw [hK, hP]
          refine ⟨He.ga κ.K c, initA κ.K c, cc, ca, (exB kd).1, (exB kd).2.1, (exB kd).2.2.1, (exB kd).2.2.2, n1, n2, n3, n5, .none, .none, n10, n11, n12, n14, s, x, p0, p1, p2, p3, p4, p5, p6, p7, p8, p9, ?_⟩
          exact ⟨b1, b2, b3, He.eqO_ok h1, h2, h3, ⟨oc, od, osl, hlk⟩, h4, hcode, hcell, Option.isSome_iff_exists.mp h7, of_decide_eq_true h8, He.eqO_ok h9, He.eqO_ok h10, of_decide_eq_true h11, He.eqO_ok h12, h13, He.eqO_ok h14, h15,
            fun a b => S.bind _ _ _ _ _ _ a b, S.par, S.ks, S.kc, S.k1, S.k2, S.kk, S.nc, S.co, S.ge, S.top, S.sx, fun L => S.intr L _ _ _, fun L => S.sw1 L _ _ _, fun L => S.sw2 L _ _ _, S.evc _ _ _, S.dbs, S.dbx⟩
        · cases hce
      · cases hfd'
theorem TabG.hot (G : TabG κ k P w mg base T) : TabG κ k P w mg base { T with cold := false, out := false } :=
  ⟨fun x gv e X h1 h2 h3 h4 h5 => by
    have g := G.glb x gv e X h1 h2 h3 h4 h5
    cases gv with
    | fn sm => obtain ⟨a, fd, ps, j', q1, q2, q3, q4, q5⟩ := g; exact ⟨a, fd, ps, j', q1, q2, q3, q4.hot, q5⟩
    | cls c sm => obtain ⟨q0, a, fd, ps, j', q1, q2, q4, q5⟩ := g; exact ⟨q0, a, fd, ps, j', q1, q2, q4.hot, q5⟩
    | _ => exact g, fun c m sm e X h1 h2 h3 h4 h5 => by
    obtain ⟨f, fd, ps, j', q1, q2, q3, q4, q5, q6⟩ := G.mth c m sm e X h1 h2 h3 h4 h5
    exact ⟨f, fd, ps, j', q1, q2, q3, q4.hot, q5, q6⟩, fun c m sm e X h1 h2 h3 h4 h5 => by
    obtain ⟨mc, p, g, fd, ps, j', q1, q2, q3, q4, q5⟩ := G.cmt c m sm e X h1 h2 h3 h4 h5
    exact ⟨mc, p, g, fd, ps, j', q1, q2, q3, q4.hot, q5⟩, G.fld, G.nd, G.isa, G.fxs⟩
theorem TabG.outHot (G : TabG κ k P w mg base T) : TabG κ k P w mg base { T with out := false } := ⟨G.glb, G.mth, G.cmt, G.fld, G.nd, G.isa, G.fxs⟩
theorem TabG.clv {h : Heap} (KX : κ.K.In h) (Gn : h.Ns mainGlobals mg) (G : TabG κ k P w mg base T) {x : Str} (c : (He.Fa.glo x).ok κ.K = true) : TabG κ k P w mg base { T with g := (x, .val (.cl x)) :: T.g } :=
  G.glo fun X _ _ _ h4 _ => ⟨.ref (He.ga κ.K x), _, by rw [h4]; exact He.glo_ok KX Gn c, rfl, fun F => rfl⟩
theorem TabG.cmeth (G : TabG κ k P w mg base T) {c m : Str} {sm : Sm} {fd : FuncData} {ps : List Str} {j : Nat} (h : (Fb.cmr c m).ok κ.K = true) (hb : Binds κ.K fd ps []) (F : FnG P w κ.K mg base (CXb T.cold P w) j (cmA κ.K (c, some m)) fd ps (spOf κ sm)) (hj : j + 2 ≤ k) :
    TabG κ k P w mg base { T with cm := ((c, m), sm) :: T.cm } :=
  ⟨G.glb, G.mth, fun c' m' sm' e => by
    have e : List.lookup (c', m') (((c, m), sm) :: T.cm) = some sm' := e
    rcases lookup_cons_inv e with ⟨e1, rfl⟩ | e
    · cases e1
      intro X h1 h2 h3 h4 h5
      subst h1 h2 h4 h5
      obtain ⟨q1, h⟩ := He.ba h
      obtain ⟨q2, h⟩ := He.ba h
      obtain ⟨q3, q4⟩ := He.ba h
      obtain ⟨w1, w2⟩ := He5.wrapB_ok q3
      refine ⟨.type "type", He.ma κ.K (He.ga κ.K c) m, cmA κ.K (c, some m), fd, ps, j, ?_, ?_, ?_, ?_, hj⟩
      · rw [h3]; exact ⟨q1, He.eqO_ok q2⟩
      · rw [h3]; exact ⟨w1, w2, q4⟩
      · rw [h3]; exact hb
      · rw [h3]; exact F
    · exact G.cmt c' m' sm' e, G.fld, G.nd, G.isa, G.fxs⟩
theorem TabG.lend (G : TabG κ k P w mg base T) (x : Str) : TabG κ k P w mg base { T with fx := .lend x :: T.fx } := G.fx fun _ _ _ _ => trivial
theorem TabG.eqc (G : TabG κ k P w mg base T) {c : Str} {t : TyN} (h : (Fb.eqc c t).ok κ.K = true) : TabG κ k P w mg base { T with fx := .eqc c t :: T.fx } := G.fx fun X hK _ _ => by
  obtain ⟨h1, h2⟩ := He.ba h
  obtain ⟨h2, h3⟩ := He.ba h2
  obtain ⟨h3, h4⟩ := He.ba h3
  have et : ∀ t, tyVal κ t = tyK κ.K t := fun t => by cases t <;> rfl
  show _ ∧ _ ∧ _ ∧ _
  rw [hK, et]
  refine ⟨h1, He.eqO_ok h2, of_decide_eq_true h3, fun n e => ?_⟩
  subst e
  exact of_decide_eq_true h4
section
variable {h : Heap} (KX : κ.K.In h) (Gn : h.Ns mainGlobals mg)
include KX Gn
theorem TabG.blt (G : TabG κ k P w mg base T) {x : Str} (c : (He.Fa.free x).ok κ.K = true) : TabG κ k P w mg base { T with g := (x, .blt) :: T.g } :=
  G.glo fun X _ _ _ h4 _ => by show X.mg x = none; rw [h4]; exact He.free_ok KX Gn c
theorem TabG.bty (G : TabG κ k P w mg base T) {x : Str} {n : String} (c : (He.Fa.free x).ok κ.K = true) (hb : bootBuiltins x = some (.type n)) (hn : x ≠ ("__name__" : Str)) : TabG κ k P w mg base { T with g := (x, .bty n) :: T.g } :=
  G.glo fun X _ _ _ h4 _ => ⟨by rw [h4]; exact He.free_ok KX Gn c, hb, hn⟩
theorem TabG.str (G : TabG κ k P w mg base T) {x z : Str} (c : (He.Fa.str x z).ok κ.K = true) : TabG κ k P w mg base { T with g := (x, .val (.str z)) :: T.g } :=
  G.glo fun X _ _ _ h4 _ => by
    obtain ⟨t, e⟩ := He.str_ok KX Gn c
    exact ⟨.str z, _, by rw [h4]; exact e, ⟨t, rfl⟩, fun F => rfl⟩
theorem TabG.strs (G : TabG κ k P w mg base T) {x : Str} {zs : List Str} (c : (Fb.strs x zs).ok κ.K = true) (cg : (He.Fa.glo x).ok κ.K = true) : TabG κ k P w mg base { T with g := (x, .val (.tup (zs.map D.str))) :: T.g } :=
  G.glo fun X _ _ _ h4 _ => by
    refine ⟨.ref (He.ga κ.K x), _, by rw [h4]; exact He.glo_ok KX Gn cg, rfl, fun F => ?_⟩
    have q0 := He.tupB_ok c (fun _ => none)
    have q : TqT κ.K F (He.ga κ.K x) ((zs.map He.Dv.str).map (He.Dv.v κ.K)) := by
      rcases q0 with q | q
      · rcases q with q | ⟨o, q⟩ <;> cases q
      · exact .inr q
    unfold Rep
    refine ⟨_, _, rfl, q, ?_⟩
    rw [List.map_map]
    clear q q0 c
    induction zs with
    | nil => exact .nil
    | cons z zs ih => exact .cons rfl ih
theorem TabG.fn (G : TabG κ k P w mg base T) {x : Str} {sm : Sm} {fd : FuncData} {ps : List Str} {j : Nat} (c : (He.Fa.glo x).ok κ.K = true) (kp : PySem.W.keepIn κ.K (.ref (He.ga κ.K x)) = true) (hb : Binds κ.K fd ps []) (F : FnG P w κ.K mg base (CXb T.cold P w) j (He.ga κ.K x) fd ps (spOf κ sm)) (hj : j ≤ k) :
    TabG κ k P w mg base { T with g := (x, .fn sm) :: T.g } :=
  G.glo fun X h1 h2 h3 h4 h5 => by
    subst h1 h2 h4 h5
    refine ⟨He.ga κ.K x, fd, ps, j, He.glo_ok KX Gn c, ?_, ?_, ?_, hj⟩
    · rw [h3]; exact kp
    · rw [h3]; exact hb
    · rw [h3]; exact F
theorem TabG.cls (G : TabG κ k P w mg base T) {x : Str} {sm : Sm} {fd : FuncData} {ps : List Str} {j : Nat} (c : (He.Fa.glo x).ok κ.K = true) (cm : (He.Fa.mkr x).ok κ.K = true) (hb : Binds κ.K fd ps []) (F : FnG P w κ.K mg base (CXb T.cold P w) j (He.ma κ.K (He.ga κ.K x) "__init__") fd ps (spIn κ x sm)) (hj : j + 1 ≤ k) :
    TabG κ k P w mg base { T with g := (x, .cls x sm) :: T.g } :=
  G.glo fun X h1 h2 h3 h4 h5 => by
    subst h1 h2 h4 h5
    refine ⟨He.glo_ok KX Gn c, He.ma κ.K (He.ga κ.K x) "__init__", fd, ps, j, ?_, ?_, ?_, hj⟩
    · rw [h3]; exact He.mkr_ok cm
    · rw [h3]; exact hb
    · rw [h3]; exact F
omit KX Gn in
theorem TabG.mt (G : TabG κ k P w mg base T) {c m : Str} {sm : Sm} {fd : FuncData} {ps : List Str} {j : Nat} (cc : (He.Fa.cls c).ok κ.K = true) (cm : (He.Fa.meth c m).ok κ.K = true) (hb : Binds κ.K fd ps []) (F : FnG P w κ.K mg base (CXb T.cold P w) j (He.ma κ.K (He.ga κ.K c) m) fd ps (spOf κ sm)) (hj : j + 2 ≤ k) (hfn : PySem.W.fnIn κ.K (He.ma κ.K (He.ga κ.K c) m) = true) :
    TabG κ k P w mg base { T with ms := ((c, m), sm) :: T.ms } :=
  G.meth fun X h1 h2 h3 h4 h5 => by
    subst h1 h2 h4 h5
    refine ⟨He.ma κ.K (He.ga κ.K c) m, fd, ps, j, ?_, ?_, ?_, ?_, hj, by rw [h3]; exact hfn⟩
    · rw [h3]; exact He.cls_ok cc
    · rw [h3]; exact He.meth_ok cm
    · rw [h3]; exact hb
    · rw [h3]; exact F
omit KX Gn in
/-- a method of the class above -/
theorem TabG.mti (G : TabG κ k P w mg base T) {c b m : Str} {sm : Sm} {fd : FuncData} {ps : List Str} {j : Nat} (hi : (Fb.inh c b m).ok κ.K = true) (cc : (He.Fa.cls c).ok κ.K = true) (cm : (He.Fa.meth c m).ok κ.K = true) (hb : Binds κ.K fd ps []) (F : FnG P w κ.K mg base (CXb T.cold P w) j (He.ma κ.K (He.ga κ.K b) m) fd ps (spOf κ sm)) (hj : j + 2 ≤ k) (hfn : PySem.W.fnIn κ.K (He.ma κ.K (He.ga κ.K b) m) = true) :
    TabG κ k P w mg base { T with ms := ((c, m), sm) :: T.ms } := by
  have e : He.ma κ.K (He.ga κ.K c) m = He.ma κ.K (He.ga κ.K b) m := of_decide_eq_true hi
  exact G.mt cc cm hb (by rw [e]; exact F) hj (by rw [e]; exact hfn)
end
end
end DL

set_option Elab.async false
set_option linter.all false
set_option maxRecDepth 100000
set_option maxHeartbeats 1000000
/-! DL19: help for the plain part. -/
namespace DL
open PySem PySem.Spec PyProof.Rows L2

theorem kd_bl {kd : D → Prop} {b b' : Bool} (e : b = b') (h : kd (.bl b')) : kd (.bl b) := by rw [e]; exact h
theorem kd_eq {kd : D → Prop} {d d' : D} (e : d = d') (h : kd d') : kd d := by rw [e]; exact h
theorem ite_t {c : Prop} [Decidable c] {a b : Prop} (h : c) (x : a) : ite c a b := by rw [if_pos h]; exact x
theorem ite_f {c : Prop} [Decidable c] {a b : Prop} (h : ¬ c) (x : b) : ite c a b := by rw [if_neg h]; exact x
theorem forI {T : Tab} {tg : Expr} {body : Env' → DEnds → Prop} {K : DEnds} {ds : List D} {ρ : Env'} (I : List D → Env' → Prop) (h : I ds ρ)
    (step : ∀ d ds ρ, I (d :: ds) ρ → (∀ ρ', I ds ρ' → dForL T tg body ds ρ' K) → dForL T tg body (d :: ds) ρ K) (fin : ∀ ρ, I [] ρ → K.nx ρ) : dForL T tg body ds ρ K := by
  induction ds generalizing ρ with
  | nil => exact fin ρ h
  | cons d ds ih => exact step d ds ρ h fun ρ' h' => ih h'
theorem compI {st : D → Env' → (Option D → Env' → Prop) → Prop} {l : List D} {ρ : Env'} {acc : List D} {k : List D → Env' → Prop} (I : List D → Env' → List D → Prop) (h : I l ρ acc)
    (step : ∀ d l ρ acc, I (d :: l) ρ acc → (∀ ρ' acc', I l ρ' acc' → dCompL st l ρ' acc' k) → dCompL st (d :: l) ρ acc k) (fin : ∀ ρ acc, I [] ρ acc → k acc ρ) : dCompL st l ρ acc k := by
  induction l generalizing ρ acc with
  | nil => exact fin ρ acc h
  | cons d l ih => exact step d l ρ acc h fun ρ' acc' h' => ih h'
/-- a plain comprehension: one value of each item -/
theorem compM {st : D → Env' → (Option D → Env' → Prop) → Prop} {l : List D} {ρ : Env'} {k : List D → Env' → Prop} (f : D → D) (hl : l.length ≤ sizeLine)
    (step : ∀ d k', d ∈ l → k' (some (f d)) ρ → st d ρ k') (fin : k (l.map f) ρ) : dCompL st l ρ [] k := by
  have key : ∀ (l' : List D) (acc : List D), (∀ d ∈ l', d ∈ l) → acc.length + l'.length ≤ sizeLine → k (acc ++ l'.map f) ρ → dCompL st l' ρ acc k := fun l' => by
    induction l' with
    | nil =>
      intro acc _ _ h
      show k acc ρ
      simpa using h
    | cons d l' ih =>
      intro acc hm hs h
      refine step d _ (hm d (List.mem_cons_self ..)) ⟨by simp at hs; omega, ih (acc ++ [f d]) (fun x hx => hm x (List.mem_cons_of_mem _ hx)) (by simp at hs ⊢; omega) (by simpa using h)⟩
  exact key l [] (fun d h => h) (by simpa using hl) (by simpa using fin)
theorem upTo_cons (lo : Int) (n : Nat) : upTo lo (n + 1) = .int lo :: upTo (lo + 1) n := by
  unfold upTo
  rw [List.range_succ_eq_map, List.map_cons, List.map_map]
  congr 1
  · simp
  · refine List.map_congr_left fun i _ => ?_
    simp
    omega
theorem upTo_nil (lo : Int) : upTo lo 0 = [] := rfl
end DL

set_option Elab.async false
set_option linter.all false
set_option maxRecDepth 100000
set_option maxHeartbeats 1000000
/-! DL20: more help for the plain part: data as texts, lists, dicts. -/
namespace DL
open PySem PySem.Spec PyProof.Rows L2

theorem toPys_map {α : Type} {g : α → D} {h : α → PyData} : ∀ {xs : List α}, (∀ x ∈ xs, toPy (g x) = some (h x)) → toPys (xs.map g) = some (xs.map h)
  | [], _ => rfl
  | x :: xs, e => by
    show (match toPy (g x), toPys (xs.map g) with
      | some p, some ps => some (p :: ps)
      | _, _ => none) = _
    rw [e x (List.mem_cons_self ..), toPys_map fun y hy => e y (List.mem_cons_of_mem _ hy)]
    rfl
theorem toPy_lst {α : Type} {g : α → D} {h : α → PyData} {xs : List α} (e : ∀ x ∈ xs, toPy (g x) = some (h x)) : toPy (.lst (xs.map g)) = some (.list (xs.map h)) := by
  show (toPys (xs.map g)).map PyData.list = _
  rw [toPys_map e]; rfl
theorem toPy_tup {α : Type} {g : α → D} {h : α → PyData} {xs : List α} (e : ∀ x ∈ xs, toPy (g x) = some (h x)) : toPy (.tup (xs.map g)) = some (.tuple (xs.map h)) := by
  show (toPys (xs.map g)).map PyData.tuple = _
  rw [toPys_map e]; rfl
theorem lay_map {α : Type} {h : α → PyData} : ∀ {xs : List α}, (∀ x ∈ xs, (h x).canLay0 = true) → PyData.canLayAll0 (xs.map h) = true
  | [], _ => rfl
  | x :: xs, e => by
    show ((h x).canLay0 && PyData.canLayAll0 (xs.map h)) = true
    rw [e x (List.mem_cons_self ..), lay_map fun y hy => e y (List.mem_cons_of_mem _ hy)]; rfl
theorem depth_map {α : Type} {h : α → PyData} {m : Nat} : ∀ {xs : List α}, (∀ x ∈ xs, (h x).depth ≤ m) → PyData.depthAll (xs.map h) ≤ m
  | [], _ => Nat.zero_le _
  | x :: xs, e => by
    show max (h x).depth (PyData.depthAll (xs.map h)) ≤ m
    have h1 := e x (List.mem_cons_self ..)
    have h2 := depth_map fun y hy => e y (List.mem_cons_of_mem _ hy)
    omega
theorem shape_lst {α : Type} {h : α → PyData} {xs : List α} (e : ∀ x ∈ xs, (h x).canLay0 = true ∧ (h x).depth ≤ 60) : SeqAt.shaped (.list (xs.map h)) = true := by
  have h1 := lay_map fun x hx => (e x hx).1
  have h2 := depth_map fun x hx => (e x hx).2
  show (PyData.canLayAll0 (xs.map h) && decide (PyData.depthAll (xs.map h) + 1 ≤ 64)) = true
  rw [h1]
  simp
  omega
theorem shape_tup {α : Type} {h : α → PyData} {xs : List α} (e : ∀ x ∈ xs, (h x).canLay0 = true ∧ (h x).depth ≤ 60) : SeqAt.shaped (.tuple (xs.map h)) = true := shape_lst e
theorem show_map {α : Type} {h : α → PyData} : ∀ {xs : List α}, (∀ x ∈ xs, (h x).showable = true) → PyData.showableAll (xs.map h) = true
  | [], _ => rfl
  | x :: xs, e => by
    show ((h x).showable && PyData.showableAll (xs.map h)) = true
    rw [e x (List.mem_cons_self ..), show_map fun y hy => e y (List.mem_cons_of_mem _ hy)]; rfl
theorem shownAll_map {α : Type} {h : α → PyData} : ∀ (xs : List α), PyData.shownAll (xs.map h) = xs.map fun x => (h x).shown
  | [] => rfl
  | x :: xs => by
    show (h x).shown :: PyData.shownAll (xs.map h) = _
    rw [shownAll_map xs]; rfl
theorem join_len {m : Nat} : ∀ {ts : List Str}, (∀ t ∈ ts, t.length ≤ m) → (Str.join ", " ts).length ≤ ts.length * (m + 2)
  | [], _ => Nat.zero_le _
  | [t], e => by
    have := e t (List.mem_cons_self ..)
    show t.length ≤ _
    simp
    omega
  | t :: u :: r, e => by
    have h1 := e t (List.mem_cons_self ..)
    have h2 := join_len (ts := u :: r) fun y hy => e y (List.mem_cons_of_mem _ hy)
    show (t ++ ", " ++ Str.join ", " (u :: r)).length ≤ _
    have e3 : ((", " : String) : Str).length = 2 := rfl
    simp only [Str.length_append, e3, List.length_cons] at h2 ⊢
    have : (r.length + 1 + 1) * (m + 2) = (r.length + 1) * (m + 2) + (m + 2) := by rw [Nat.add_mul (r.length + 1) 1 (m + 2)]; simp
    omega
theorem tupT_len {m : Nat} {ts : List Str} (e : ∀ t ∈ ts, t.length ≤ m) : (tupleText ts).length ≤ ts.length * (m + 2) + 3 := by
  have h := join_len e
  unfold tupleText
  have e1 : (("(" : String) : Str).length = 1 := rfl
  split
  · have e2 : ((",)" : String) : Str).length = 2 := rfl
    simp only [Str.length_append, e1, e2]
    omega
  · have e2 : ((")" : String) : Str).length = 1 := rfl
    simp only [Str.length_append, e1, e2]
    omega
theorem textFrom_le {m : Nat} : ∀ {ts : List Str} (k : Nat) (acc : Str), (∀ t ∈ ts, t.length ≤ m) → (textFrom k acc ts).length ≤ acc.length + ts.length * (m + 2)
  | [], k, acc, _ => by show acc.length ≤ _; simp
  | t :: ts, k, acc, e => by
    have h1 := e t (List.mem_cons_self ..)
    show (textFrom (k + 1) (acc ++ (if k > 0 then ", " else "" : String) ++ t) ts).length ≤ _
    have h2 := textFrom_le (ts := ts) (k + 1) (acc ++ (if k > 0 then ", " else "" : String) ++ t) fun y hy => e y (List.mem_cons_of_mem _ hy)
    have e3 : (((if k > 0 then ", " else "") : String) : Str).length ≤ 2 := by split <;> exact (by decide)
    simp only [Str.length_append] at h2
    have : (ts.length + 1) * (m + 2) = ts.length * (m + 2) + (m + 2) := by rw [Nat.add_mul]; simp
    rw [List.length_cons, this]
    omega
theorem lstT_len {m : Nat} {ts : List Str} (e : ∀ t ∈ ts, t.length ≤ m) : (listText ts).length ≤ ts.length * (m + 2) + 2 := by
  have h := textFrom_le 0 "[" e
  unfold listText
  have e1 : (("[" : String) : Str).length = 1 := rfl
  have e2 : (("]" : String) : Str).length = 1 := rfl
  rw [e1] at h
  simp only [Str.length_append, e2]
  omega
/-- a text is repr's -/
theorem shown_tup_le {α : Type} {h : α → PyData} {m : Nat} {xs : List α} (e : ∀ x ∈ xs, (h x).shown.length ≤ m) : (PyData.shown (.tuple (xs.map h))).length ≤ xs.length * (m + 2) + 3 := by
  show (tupleText (PyData.shownAll (xs.map h))).length ≤ _
  rw [shownAll_map]
  have := tupT_len (m := m) (ts := xs.map fun x => (h x).shown) fun t ht => by
    obtain ⟨x, hx, rfl⟩ := List.mem_map.mp ht
    exact e x hx
  rw [List.length_map] at this
  exact this
theorem shown_lst_le {α : Type} {h : α → PyData} {m : Nat} {xs : List α} (e : ∀ x ∈ xs, (h x).shown.length ≤ m) : (PyData.shown (.list (xs.map h))).length ≤ xs.length * (m + 2) + 2 := by
  show (listText (PyData.shownAll (xs.map h))).length ≤ _
  rw [shownAll_map]
  have := lstT_len (m := m) (ts := xs.map fun x => (h x).shown) fun t ht => by
    obtain ⟨x, hx, rfl⟩ := List.mem_map.mp ht
    exact e x hx
  rw [List.length_map] at this
  exact this
/-! ### a block cut in two -/
theorem seq_app {f : Stmt → Env' → DEnds → Prop} (b : List Stmt) (K : DEnds) : ∀ (a : List Stmt) (ρ : Env'), dSeq f (a ++ b) ρ K = dSeq f a ρ { K with nx := fun ρ' => dSeq f b ρ' K }
  | [], _ => rfl
  | st :: a, ρ => by
    show f st ρ { K with nx := fun ρ' => dSeq f (a ++ b) ρ' K } = f st ρ { K with nx := fun ρ' => dSeq f a ρ' { K with nx := fun ρ' => dSeq f b ρ' K } }
    have : (fun ρ' => dSeq f (a ++ b) ρ' K) = fun ρ' => dSeq f a ρ' { K with nx := fun ρ' => dSeq f b ρ' K } := funext fun ρ' => seq_app b K a ρ'
    rw [this]
theorem seq_cut {f : Stmt → Env' → DEnds → Prop} {body : List Stmt} {ρ : Env'} {K : DEnds} (n : Nat) (I : Env' → Prop) (h1 : ∀ kk : Env' → Prop, (∀ ρ', I ρ' → kk ρ') → dSeq f (body.take n) ρ { K with nx := kk }) (h2 : ∀ ρ', I ρ' → dSeq f (body.drop n) ρ' K) : dSeq f body ρ K := by
  have e : body = body.take n ++ body.drop n := (List.take_append_drop n body).symm
  rw [e, seq_app]
  exact h1 _ h2
/-- one statement, by itself -/
theorem seq_one {f : Stmt → Env' → DEnds → Prop} {st : Stmt} {rest : List Stmt} {ρ : Env'} {K : DEnds} (I : Env' → Prop) (h1 : ∀ kk : Env' → Prop, (∀ ρ', I ρ' → kk ρ') → f st ρ { K with nx := kk }) (h2 : ∀ ρ', I ρ' → dSeq f rest ρ' K) : dSeq f (st :: rest) ρ K := h1 _ h2
theorem for_step {T : Tab} {x : Str} {p : Pos} {i : Nat} {body : Env' → DEnds → Prop} {d : D} {ds : List D} {ρ : Env'} {K : DEnds} (hx : T.nm.lookup x = some .local ∨ (T.nm.lookup x = some .cell ∧ T.fn x = true)) (hs : slotOf T.N x = some i)
    (h : body (setFr ρ i d) { K with nx := fun ρ2 => dForL T (.Name x p) body ds ρ2 K, ct := fun ρ2 => dForL T (.Name x p) body ds ρ2 K, bk := K.nx }) : dForL T (.Name x p) body (d :: ds) ρ K := ⟨hx, by rw [hs]; exact h⟩
/-! ### lists -/
theorem atI_nat {α : Type} {xs : List α} {j : Int} (h0 : 0 ≤ j) (h1 : j < xs.length) : atI xs j = xs[j.toNat]? := by
  unfold atI ixN
  rw [if_pos h0, if_pos h1]
  rfl
theorem atI_get {α : Type} {xs : List α} {j : Int} (h0 : 0 ≤ j) (h1 : j < xs.length) : ∃ h : j.toNat < xs.length, atI xs j = some xs[j.toNat] := by
  have h2 : j.toNat < xs.length := by omega
  exact ⟨h2, by rw [atI_nat h0 h1]; exact List.getElem?_eq_getElem h2⟩
theorem atI_some {α : Type} {xs : List α} {j : Int} (h0 : 0 ≤ j) (h1 : j < xs.length) : ∃ d, d ∈ xs ∧ atI xs j = some d := by
  obtain ⟨h, e⟩ := atI_get h0 h1
  exact ⟨_, List.getElem_mem h, e⟩
theorem ixN_nat {n : Nat} {j : Int} (h0 : 0 ≤ j) (h1 : j < n) : ixN n j = some j.toNat := by
  unfold ixN
  rw [if_pos h0, if_pos h1]
theorem seqIx {j : Int} {n : Nat} (h0 : 0 ≤ j) (h1 : j < n) : seqIndex? j n = some j.toNat := by
  have h2 : ¬ j < 0 := by omega
  simp [seqIndex?, h2, h0, h1]
theorem cut_take {α : Type} {xs : List α} {m : Int} (h0 : 0 ≤ m) : cutL xs none (some m) = xs.take m.toNat := by
  unfold cutL
  rw [show HT.sIx xs.length 0 none = 0 from rfl, show HT.sIx xs.length xs.length (some m) = min m.toNat xs.length by
    show (if m < 0 then (m + (xs.length : Int)).toNat else min m.toNat xs.length) = _
    rw [if_neg (by omega)], List.drop_zero, Nat.sub_zero]
  rcases Nat.le_total m.toNat xs.length with h | h
  · rw [Nat.min_eq_left h]
  · rw [Nat.min_eq_right h, List.take_length, List.take_of_length_le h]
theorem setD_lst {xs : List D} {i : Int} {d : D} (h0 : 0 ≤ i) (h1 : i < xs.length) : setD (.lst xs) (.int i) d = some (.lst (xs.set i.toNat d)) := by
  show (match ixN xs.length i with
    | some j => some (D.lst (xs.set j d))
    | none => none) = _
  rw [ixN_nat h0 h1]
/-! ### dicts -/
theorem putG_mem {α : Type} {key j : Option Key} {a : α} : ∀ {ks : List (Option Key)} {xs : List α}, j ∈ (putG key a ks xs).1 → j = key ∨ j ∈ ks
  | [], [], h => by
    have h : j ∈ [key] := h
    exact .inl (List.mem_singleton.mp h)
  | [], _ :: _, h => by
    have h : j ∈ [key] := h
    exact .inl (List.mem_singleton.mp h)
  | _ :: _, [], h => by
    have h : j ∈ [key] := h
    exact .inl (List.mem_singleton.mp h)
  | k :: ks, x :: xs, h => by
    unfold putG at h
    split at h
    · exact .inr h
    · rcases List.mem_cons.mp h with h | h
      · exact .inr (by rw [h]; exact List.mem_cons_self ..)
      · rcases putG_mem h with h | h
        · exact .inl h
        · exact .inr (List.mem_cons_of_mem _ h)
theorem any_key {ks : List (Option Key)} {key : Option Key} (h : key ∉ ks) : (ks.any fun j => decide (j = key)) = false := by
  rw [List.any_eq_false]
  intro k hk
  have : k ≠ key := fun z => h (by rw [← z]; exact hk)
  simp [this]
theorem strOk_app (a b : Str) : PyData.canLay0 (.str (a ++ b)) = (PyData.canLay0 (.str a) && PyData.canLay0 (.str b)) := by
  show (a.cps ++ b.cps).all (· < 0x110000) = _
  rw [Array.all_append]; rfl
theorem empty_app (a : Str) : Str.empty ++ a = a := by
  cases a
  show Str.mk (#[] ++ _) = _
  simp
end DL
namespace DL
open PySem PySem.Spec PyProof.Rows L2
theorem seq_cons {f : Stmt → Env' → DEnds → Prop} {st : Stmt} {rest : List Stmt} {ρ : Env'} {K : DEnds} (h : f st ρ { K with nx := fun ρ' => dSeq f rest ρ' K }) : dSeq f (st :: rest) ρ K := h
theorem asg_n {T : Tab} {sf : Bool} {xk : DX → Prop} {n : Nat} {x : Str} {p q : Pos} {e : Expr} {ρ : Env'} {K : DEnds} {i : Nat} (hl : locSlot T sf x = some i) (h : dE n T xk e ρ (unslot fun r ρ1 => K.nx (putR ρ1 i r))) (hc : isDC e = false := by rfl) : dS T sf xk (n + 1) (.Assign [.Name x p] e q) ρ K := by
  show dAsgN (dE n T xk) T sf x e ρ K
  unfold dAsgN
  rw [hl]
  dsimp only
  rw [hc]
  exact h
end DL
namespace DL
open PySem PySem.Spec PyProof.Rows L2
/-- a plain comprehension with tests -/
theorem compF {st : D → Env' → (Option D → Env' → Prop) → Prop} {l : List D} {ρ : Env'} {k : List D → Env' → Prop} (f : D → Option D) (hl : l.length ≤ sizeLine)
    (step : ∀ d k', d ∈ l → k' (f d) ρ → st d ρ k') (fin : k (l.filterMap f) ρ) : dCompL st l ρ [] k := by
  have key : ∀ (l' : List D) (acc : List D), (∀ d ∈ l', d ∈ l) → acc.length + l'.length ≤ sizeLine → k (acc ++ l'.filterMap f) ρ → dCompL st l' ρ acc k := fun l' => by
    induction l' with
    | nil =>
      intro acc _ _ h
      show k acc ρ
      simpa using h
    | cons d l' ih =>
      intro acc hm hs h
      refine step d _ (hm d (List.mem_cons_self ..)) ?_
      cases hf : f d with
      | none => exact ih acc (fun x hx => hm x (List.mem_cons_of_mem _ hx)) (by simp at hs ⊢; omega) (by simpa [hf] using h)
      | some v => exact ⟨by simp at hs; omega, ih (acc ++ [v]) (fun x hx => hm x (List.mem_cons_of_mem _ hx)) (by simp at hs ⊢; omega) (by simpa [hf] using h)⟩
  exact key l [] (fun d h => h) (by simpa using hl) (by simpa using fin)
theorem ite_d {c : Prop} [Decidable c] {a b : Prop} (h1 : c → a) (h2 : ¬ c → b) : ite c a b := by
  by_cases h : c
  · rw [if_pos h]; exact h1 h
  · rw [if_neg h]; exact h2 h
theorem eqv_nil (ps : List PyData) : PyData.eqv (.list ps) (.list []) = ps.isEmpty := by cases ps <;> rfl
end DL
namespace DL
open PySem PySem.Spec PyProof.Rows L2
/-- a comprehension whose values have a property -/
theorem compA {st : D → Env' → (Option D → Env' → Prop) → Prop} {l : List D} {ρ : Env'} {k : List D → Env' → Prop} (p : D → Prop) (hl : l.length ≤ sizeLine)
    (step : ∀ d k', d ∈ l → (∀ v, p v → k' (some v) ρ) → st d ρ k') (fin : ∀ vs : List D, vs.length = l.length → (∀ v ∈ vs, p v) → k vs ρ) : dCompL st l ρ [] k := by
  have key : ∀ (l' : List D) (acc : List D), (∀ d ∈ l', d ∈ l) → acc.length + l'.length = l.length → (∀ v ∈ acc, p v) → dCompL st l' ρ acc k := fun l' => by
    induction l' with
    | nil =>
      intro acc _ hs h
      exact fin acc (by simpa using hs) h
    | cons d l' ih =>
      intro acc hm hs h
      refine step d _ (hm d (List.mem_cons_self ..)) fun v hv => ⟨by simp at hs; omega, ih (acc ++ [v]) (fun x hx => hm x (List.mem_cons_of_mem _ hx)) (by simp at hs ⊢; omega) fun w hw => ?_⟩
      rcases List.mem_append.mp hw with hw | hw
      · exact h w hw
      · rw [List.mem_singleton.mp hw]; exact hv
  exact key l [] (fun d h => h) (by simp) (fun _ h => by cases h)
end DL
namespace DL
open PySem PySem.Spec PyProof.Rows L2
theorem cut_drop {α : Type} {xs : List α} {m : Int} (h0 : 0 ≤ m) : cutL xs (some m) none = xs.drop m.toNat := by
  unfold cutL
  rw [show HT.sIx xs.length xs.length none = xs.length from rfl, show HT.sIx xs.length 0 (some m) = min m.toNat xs.length by
    show (if m < 0 then (m + (xs.length : Int)).toNat else min m.toNat xs.length) = _
    rw [if_neg (by omega)]]
  rcases Nat.le_total m.toNat xs.length with h | h
  · rw [Nat.min_eq_left h, List.take_of_length_le (by rw [List.length_drop]; omega)]
  · rw [Nat.min_eq_right h, List.drop_eq_nil_of_le (Nat.le_refl _), List.drop_eq_nil_of_le h, List.take_nil]
/-- a slot that holds d -/
def isL (s : Option S) (d : D) : Prop := s = some (.fr d) ∨ s = some (.ow d)
end DL
namespace DL
open PySem PySem.Spec PyProof.Rows L2
theorem for_cut {T : Tab} {sf : Bool} {xk : DX → Prop} {n : Nat} {tg it : Expr} {body : List Stmt} {q : Pos} {ρ : Env'} {K : DEnds} (I : List D → Env' → Prop) (hk : tgKeeps T sf tg = true) (h1 : ∀ kk : List D → Env' → Prop, (∀ ds ρ', I ds ρ' → kk ds ρ') → dIter (dE n T xk) T tg it ρ kk)
    (h2 : ∀ ds ρ', I ds ρ' → dForL T tg (fun ρ K => dSeq (dS T sf xk n) body ρ K) ds ρ' K) : dS T sf xk (n + 1) (.For tg it body [] q) ρ K := ⟨hk, h1 _ h2⟩
end DL
namespace DL
open PySem PySem.Spec PyProof.Rows L2
/-- a while loop that goes down by one each turn -/
theorem whI {t : Env' → (Bool → Env' → Prop) → Prop} {body : Env' → DEnds → Prop} {K : DEnds} (I : Nat → Env' → Prop)
    (step : ∀ n ρ, I n ρ → (∀ n', n = n' + 1 → ∀ ρ', I n' ρ' → dWh t body n ρ' K) → dWh t body (n + 1) ρ K) : ∀ (n : Nat) (ρ : Env'), I n ρ → dWh t body (n + 1) ρ K
  | 0, ρ, h => step 0 ρ h fun n' e => by cases e
  | n + 1, ρ, h => step (n + 1) ρ h fun n' e ρ' h' => by cases e; exact whI I step n ρ' h'
end DL
namespace DL
open PySem PySem.Spec PyProof.Rows L2
theorem compDI {st : D → Env' → (Option (Key × D) → Env' → Prop) → Prop} {l : List D} {ρ : Env'} {ks : List (Option Key)} {acc : List D} {k : List (Option Key) → List D → Env' → Prop} (I : List D → Env' → List (Option Key) → List D → Prop) (h : I l ρ ks acc)
    (step : ∀ d l ρ ks acc, I (d :: l) ρ ks acc → (∀ ρ' ks' acc', I l ρ' ks' acc' → dCompD st l ρ' ks' acc' k) → dCompD st (d :: l) ρ ks acc k) (fin : ∀ ρ ks acc, I [] ρ ks acc → k ks acc ρ) : dCompD st l ρ ks acc k := by
  induction l generalizing ρ ks acc with
  | nil => exact fin ρ ks acc h
  | cons d l ih => exact step d l ρ ks acc h fun ρ' ks' acc' h' => ih h'
theorem putG_new {α : Type} (key : Option Key) (a : α) (ks : List (Option Key)) (xs : List α) (h : ks.length = xs.length) (hn : key ∉ ks) : putG key a ks xs = (ks ++ [key], xs ++ [a]) := putG_none key a ks xs h hn
theorem putG_old {α : Type} (key : Option Key) (a : α) : ∀ (ks : List (Option Key)) (xs : List α), ks.length = xs.length → key ∈ ks → (putG key a ks xs).1 = ks ∧ (putG key a ks xs).2.length = xs.length
  | [], _, _, h => by cases h
  | k :: ks, [], h, _ => by simp at h
  | k :: ks, x :: xs, h, hm => by
    unfold putG
    by_cases e : k = key
    · rw [if_pos e]; exact ⟨rfl, rfl⟩
    · rw [if_neg e]
      have hm : key ∈ ks := by
        rcases List.mem_cons.mp hm with z | z
        · exact absurd z.symm e
        · exact z
      obtain ⟨q1, q2⟩ := putG_old key a ks xs (by simpa using h) hm
      exact ⟨by show k :: _ = k :: _; rw [q1], by simp [q2]⟩
/-- the keys of a dict comprehension over texts, so far -/
structure Keyed (done : List Str) (ks : List (Option Key)) : Prop where
  le : ks.length ≤ done.length
  mem : ∀ z, strKey z ∈ ks ↔ z ∈ done
  eq : ks.length = done.length ↔ done.Nodup
theorem Keyed.nil : Keyed [] [] := ⟨Nat.le_refl _, fun z => by simp, by simp⟩
theorem Keyed.put {done : List Str} {ks : List (Option Key)} {xs : List D} (h : Keyed done ks) (hl : ks.length = xs.length) (z : Str) (a : D) : Keyed (done ++ [z]) (putG (strKey z) a ks xs).1 ∧ (putG (strKey z) a ks xs).1.length = (putG (strKey z) a ks xs).2.length := by
  by_cases hz : z ∈ done
  · obtain ⟨q1, q2⟩ := putG_old (strKey z) a ks xs hl ((h.mem z).mpr hz)
    refine ⟨?_, by rw [q1, q2]; exact hl⟩
    rw [q1]
    refine ⟨by have := h.le; simp; omega, fun y => ?_, ?_⟩
    · rw [h.mem y, List.mem_append]
      constructor
      · exact fun e => .inl e
      · rintro (e | e)
        · exact e
        · rw [List.mem_singleton.mp e]; exact hz
    · constructor
      · intro e
        have := h.le
        simp at e
        omega
      · intro nd
        rw [List.nodup_append] at nd
        exact absurd rfl (nd.2.2 z hz z (by simp))
  · have hk : strKey z ∉ ks := fun e => hz ((h.mem z).mp e)
    rw [putG_new _ _ _ _ hl hk]
    refine ⟨⟨by have := h.le; simp; omega, fun y => ?_, ?_⟩, by simp [hl]⟩
    · rw [List.mem_append, List.mem_append, h.mem y]
      constructor
      · rintro (e | e)
        · exact .inl e
        · right
          have e := List.mem_singleton.mp e
          unfold strKey at e
          simp at e
          simp [e]
      · rintro (e | e)
        · exact .inl e
        · right; rw [List.mem_singleton.mp e]; simp
    · rw [List.nodup_append, List.length_append, List.length_append]
      have := h.eq
      constructor
      · intro e
        have e : ks.length = done.length := by simpa using e
        refine ⟨this.mp e, by simp, fun a ha b hb => ?_⟩
        rw [List.mem_singleton.mp hb]
        exact fun e => hz (by rw [← e]; exact ha)
      · intro e
        have := this.mpr e.1
        simpa using this
end DL
namespace DL
open PySem PySem.Spec PyProof.Rows L2
/-- an if statement, its test known -/
theorem ifC {T : Tab} {sf : Bool} {xk : DX → Prop} {n : Nat} {c : Expr} {a b : List Stmt} {q : Pos} {ρ ρ' : Env'} {K : DEnds} (t : Bool) (h1 : ∀ kk : Bool → Env' → Prop, kk t ρ' → dT n T xk c ρ kk)
    (h2 : dSeq (dS T sf xk n) (if t = true then a else b) ρ' K) : dS T sf xk (n + 1) (.If c a b q) ρ K := by
  refine h1 _ ?_
  cases t
  · exact h2
  · exact h2
end DL

set_option Elab.async false
set_option linter.all false
set_option maxRecDepth 100000
set_option maxHeartbeats 0
/-! the table of the law's text -/
namespace Lw
open PySem PySem.Spec PyProof.Rows L2 DL
def top (i : Nat) : Stmt := PySem.Challenge.pw_ledmarks_k03_rows_refused.main.body.getD i (.Pass ⟨0, 0, 0, 0⟩)
def T0 : Tab := tab0
def T1 : Tab := { T0 with g := ("len", .blt) :: T0.g }
def T2 : Tab := { T1 with g := ("isinstance", .blt) :: T1.g }
def T3 : Tab := { T2 with g := ("all", .blt) :: T2.g }
def T4 : Tab := { T3 with g := ("range", .blt) :: T3.g }
def T5 : Tab := { T4 with g := ("enumerate", .blt) :: T4.g }
def T6 : Tab := { T5 with g := ("zip", .blt) :: T5.g }
def T7 : Tab := { T6 with g := ("abs", .blt) :: T6.g }
def T8 : Tab := { T7 with g := ("repr", .blt) :: T7.g }
def T9 : Tab := { T8 with g := ("max", .blt) :: T8.g }
def T10 : Tab := { T9 with g := ("min", .blt) :: T9.g }
def T11 : Tab := { T10 with g := ("int", .bty "int") :: T10.g }
def T12 : Tab := { T11 with g := ("str", .bty "str") :: T11.g }
def T13 : Tab := { T12 with g := ("bool", .bty "bool") :: T12.g }
def T14 : Tab := { T13 with g := ("list", .bty "list") :: T13.g }
def T15 : Tab := { T14 with g := ("tuple", .bty "tuple") :: T14.g }
def T16 : Tab := { T15 with g := ("SMALL", .val (.str "abcdefghijklmnopqrstuvwxyz")) :: T15.g }
def T17 : Tab := { T16 with g := ("BARRED", .val (.tup (List.map D.str ["and", "any", "came", "here", "not", "own", "to"]))) :: T16.g }
def T18 : Tab := { T17 with g := ("PARTS", .val (.tup (List.map D.str ["above", "below", "own"]))) :: T17.g }
def T19 : Tab := { T18 with g := ("ANY", .val (.tup (List.map D.str ["any"]))) :: T18.g }
def T20 : Tab := { T19 with g := ("SIDES", .val (.tup (List.map D.str ["here", "came"]))) :: T19.g }
def T21 : Tab := { T20 with isa := ((.inl "NoneType", .inl "int"), false) :: T20.isa }
def T22 : Tab := { T21 with isa := ((.inl "NoneType", .inl "bool"), false) :: T21.isa }
def T23 : Tab := { T22 with isa := ((.inl "NoneType", .inl "str"), false) :: T22.isa }
def T24 : Tab := { T23 with isa := ((.inl "NoneType", .inl "list"), false) :: T23.isa }
def T25 : Tab := { T24 with isa := ((.inl "NoneType", .inl "tuple"), false) :: T24.isa }
def T26 : Tab := { T25 with isa := ((.inl "bool", .inl "int"), true) :: T25.isa }
def T27 : Tab := { T26 with isa := ((.inl "bool", .inl "bool"), true) :: T26.isa }
def T28 : Tab := { T27 with isa := ((.inl "bool", .inl "str"), false) :: T27.isa }
def T29 : Tab := { T28 with isa := ((.inl "bool", .inl "list"), false) :: T28.isa }
def T30 : Tab := { T29 with isa := ((.inl "bool", .inl "tuple"), false) :: T29.isa }
def T31 : Tab := { T30 with isa := ((.inl "int", .inl "int"), true) :: T30.isa }
def T32 : Tab := { T31 with isa := ((.inl "int", .inl "bool"), false) :: T31.isa }
def T33 : Tab := { T32 with isa := ((.inl "int", .inl "str"), false) :: T32.isa }
def T34 : Tab := { T33 with isa := ((.inl "int", .inl "list"), false) :: T33.isa }
def T35 : Tab := { T34 with isa := ((.inl "int", .inl "tuple"), false) :: T34.isa }
def T36 : Tab := { T35 with isa := ((.inl "str", .inl "int"), false) :: T35.isa }
def T37 : Tab := { T36 with isa := ((.inl "str", .inl "bool"), false) :: T36.isa }
def T38 : Tab := { T37 with isa := ((.inl "str", .inl "str"), true) :: T37.isa }
def T39 : Tab := { T38 with isa := ((.inl "str", .inl "list"), false) :: T38.isa }
def T40 : Tab := { T39 with isa := ((.inl "str", .inl "tuple"), false) :: T39.isa }
def T41 : Tab := { T40 with isa := ((.inl "list", .inl "int"), false) :: T40.isa }
def T42 : Tab := { T41 with isa := ((.inl "list", .inl "bool"), false) :: T41.isa }
def T43 : Tab := { T42 with isa := ((.inl "list", .inl "str"), false) :: T42.isa }
def T44 : Tab := { T43 with isa := ((.inl "list", .inl "list"), true) :: T43.isa }
def T45 : Tab := { T44 with isa := ((.inl "list", .inl "tuple"), false) :: T44.isa }
def T46 : Tab := { T45 with isa := ((.inl "tuple", .inl "int"), false) :: T45.isa }
def T47 : Tab := { T46 with isa := ((.inl "tuple", .inl "bool"), false) :: T46.isa }
def T48 : Tab := { T47 with isa := ((.inl "tuple", .inl "str"), false) :: T47.isa }
def T49 : Tab := { T48 with isa := ((.inl "tuple", .inl "list"), false) :: T48.isa }
def T50 : Tab := { T49 with isa := ((.inl "tuple", .inl "tuple"), true) :: T49.isa }
def T51 : Tab := { T50 with isa := ((.inr "Run", .inr "Row"), true) :: T50.isa }
def T52 : Tab := { T51 with isa := ((.inr "Run", .inr "Run"), true) :: T51.isa }
def T53 : Tab := { T52 with isa := ((.inr "Run", .inr "Lead"), false) :: T52.isa }
def T54 : Tab := { T53 with isa := ((.inr "Run", .inr "Join"), false) :: T53.isa }
def T55 : Tab := { T54 with isa := ((.inr "Run", .inl "int"), false) :: T54.isa }
def T56 : Tab := { T55 with isa := ((.inr "Run", .inl "bool"), false) :: T55.isa }
def T57 : Tab := { T56 with isa := ((.inr "Run", .inl "str"), false) :: T56.isa }
def T58 : Tab := { T57 with isa := ((.inr "Run", .inl "list"), false) :: T57.isa }
def T59 : Tab := { T58 with isa := ((.inr "Run", .inl "tuple"), false) :: T58.isa }
def T60 : Tab := { T59 with isa := ((.inr "Lead", .inr "Row"), true) :: T59.isa }
def T61 : Tab := { T60 with isa := ((.inr "Lead", .inr "Run"), false) :: T60.isa }
def T62 : Tab := { T61 with isa := ((.inr "Lead", .inr "Lead"), true) :: T61.isa }
def T63 : Tab := { T62 with isa := ((.inr "Lead", .inr "Join"), false) :: T62.isa }
def T64 : Tab := { T63 with isa := ((.inr "Lead", .inl "int"), false) :: T63.isa }
def T65 : Tab := { T64 with isa := ((.inr "Lead", .inl "bool"), false) :: T64.isa }
def T66 : Tab := { T65 with isa := ((.inr "Lead", .inl "str"), false) :: T65.isa }
def T67 : Tab := { T66 with isa := ((.inr "Lead", .inl "list"), false) :: T66.isa }
def T68 : Tab := { T67 with isa := ((.inr "Lead", .inl "tuple"), false) :: T67.isa }
def T69 : Tab := { T68 with isa := ((.inr "Join", .inr "Row"), true) :: T68.isa }
def T70 : Tab := { T69 with isa := ((.inr "Join", .inr "Run"), false) :: T69.isa }
def T71 : Tab := { T70 with isa := ((.inr "Join", .inr "Lead"), false) :: T70.isa }
def T72 : Tab := { T71 with isa := ((.inr "Join", .inr "Join"), true) :: T71.isa }
def T73 : Tab := { T72 with isa := ((.inr "Join", .inl "int"), false) :: T72.isa }
def T74 : Tab := { T73 with isa := ((.inr "Join", .inl "bool"), false) :: T73.isa }
def T75 : Tab := { T74 with isa := ((.inr "Join", .inl "str"), false) :: T74.isa }
def T76 : Tab := { T75 with isa := ((.inr "Join", .inl "list"), false) :: T75.isa }
def T77 : Tab := { T76 with isa := ((.inr "Join", .inl "tuple"), false) :: T76.isa }
def T78 : Tab := { T77 with isa := ((.inl "NoneType", .inr "Run"), false) :: T77.isa }
def T79 : Tab := { T78 with isa := ((.inl "NoneType", .inr "Lead"), false) :: T78.isa }
def T80 : Tab := { T79 with isa := ((.inl "NoneType", .inr "Join"), false) :: T79.isa }
def T81 : Tab := { T80 with isa := ((.inl "NoneType", .inr "Row"), false) :: T80.isa }
def T82 : Tab := { T81 with isa := ((.inl "bool", .inr "Run"), false) :: T81.isa }
def T83 : Tab := { T82 with isa := ((.inl "bool", .inr "Lead"), false) :: T82.isa }
def T84 : Tab := { T83 with isa := ((.inl "bool", .inr "Join"), false) :: T83.isa }
def T85 : Tab := { T84 with isa := ((.inl "bool", .inr "Row"), false) :: T84.isa }
def T86 : Tab := { T85 with isa := ((.inl "int", .inr "Run"), false) :: T85.isa }
def T87 : Tab := { T86 with isa := ((.inl "int", .inr "Lead"), false) :: T86.isa }
def T88 : Tab := { T87 with isa := ((.inl "int", .inr "Join"), false) :: T87.isa }
def T89 : Tab := { T88 with isa := ((.inl "int", .inr "Row"), false) :: T88.isa }
def T90 : Tab := { T89 with isa := ((.inl "str", .inr "Run"), false) :: T89.isa }
def T91 : Tab := { T90 with isa := ((.inl "str", .inr "Lead"), false) :: T90.isa }
def T92 : Tab := { T91 with isa := ((.inl "str", .inr "Join"), false) :: T91.isa }
def T93 : Tab := { T92 with isa := ((.inl "str", .inr "Row"), false) :: T92.isa }
def T94 : Tab := { T93 with isa := ((.inl "list", .inr "Run"), false) :: T93.isa }
def T95 : Tab := { T94 with isa := ((.inl "list", .inr "Lead"), false) :: T94.isa }
def T96 : Tab := { T95 with isa := ((.inl "list", .inr "Join"), false) :: T95.isa }
def T97 : Tab := { T96 with isa := ((.inl "list", .inr "Row"), false) :: T96.isa }
def T98 : Tab := { T97 with isa := ((.inl "tuple", .inr "Run"), false) :: T97.isa }
def T99 : Tab := { T98 with isa := ((.inl "tuple", .inr "Lead"), false) :: T98.isa }
def T100 : Tab := { T99 with isa := ((.inl "tuple", .inr "Join"), false) :: T99.isa }
def T101 : Tab := { T100 with isa := ((.inl "tuple", .inr "Row"), false) :: T100.isa }
def T102 : Tab := { T101 with fls := ("Run", "old") :: T101.fls }
def T103 : Tab := { T102 with fls := ("Run", "then") :: T102.fls }
def T104 : Tab := { T103 with fls := ("Run", "names") :: T103.fls }
def T105 : Tab := { T104 with fls := ("Lead", "tests") :: T104.fls }
def T106 : Tab := { T105 with fls := ("Lead", "old") :: T105.fls }
def T107 : Tab := { T106 with fls := ("Lead", "then") :: T106.fls }
def T108 : Tab := { T107 with fls := ("Lead", "names") :: T107.fls }
def T109 : Tab := { T108 with fls := ("Join", "here") :: T108.fls }
def T110 : Tab := { T109 with fls := ("Join", "came") :: T109.fls }
def T111 : Tab := { T110 with fls := ("Join", "then") :: T110.fls }
def T112 : Tab := { T111 with fls := ("Join", "names") :: T111.fls }
def T113 : Tab := { T112 with g := ("Row", .val (.cl "Row")) :: T112.g }
def T114 : Tab := { T113 with g := ("InvalidRow", .val (.cl "InvalidRow")) :: T113.g }
def T115 : Tab := { T114 with g := ("InvalidText", .val (.cl "InvalidText")) :: T114.g }
def T116 : Tab := { T115 with g := ("InvalidTool", .val (.cl "InvalidTool")) :: T115.g }
def T117 : Tab := { T116 with g := ("MarkError", .val (.cl "MarkError")) :: T116.g }
def st_x_InvalidRow : Stmt := inClass (top 2) 0
theorem s_x_InvalidRow : ExS PySem.Challenge.pw_ledmarks_k03_rows_refused "__init__" "InvalidRow.__init__" (defArgs st_x_InvalidRow) (defScope st_x_InvalidRow) "self" "word" "word" ⟨7, 8, 7, 13⟩ ⟨7, 8, 7, 15⟩ ⟨7, 8, 7, 24⟩ ⟨7, 25, 7, 29⟩ ⟨7, 8, 7, 30⟩ ⟨7, 8, 7, 30⟩ ⟨8, 8, 8, 12⟩ ⟨8, 8, 8, 17⟩ ⟨8, 20, 8, 24⟩ ⟨8, 8, 8, 24⟩ := ⟨fun _ _ _ _ _ _ _ _ => rfl, ⟨_, rfl, rfl⟩, rfl, rfl, rfl, rfl, rfl, by decide +kernel, rfl, rfl, by decide +kernel, by decide, fun _ _ _ _ => rfl, fun _ _ _ _ => rfl, fun _ _ _ _ => rfl, fun _ _ _ => ⟨_, fun _ => rfl⟩, by decide, by decide⟩
def T118 : Tab := { T117 with fx := .exc "InvalidRow" "word" :: T117.fx }
def T119 : Tab := { T118 with fx := .xat "InvalidRow" "word" :: T118.fx }
def T120 : Tab := { T119 with fx := .isx "InvalidRow" (.inr "MarkError") true :: T119.fx }
def T121 : Tab := { T120 with fx := .isx "InvalidRow" (.inr "InvalidTool") false :: T120.fx }
def T122 : Tab := { T121 with fx := .exm "InvalidRow" "InvalidRow" true :: T121.fx }
def T123 : Tab := { T122 with fx := .lend "_law_told" :: T122.fx }
def T124 : Tab := { T123 with fx := .lend "_law_wrong" :: T123.fx }
def T125 : Tab := { T124 with fx := .eqc "Run" (.inr "Run") :: T124.fx }
def T126 : Tab := { T125 with fx := .eqc "Run" (.inr "Lead") :: T125.fx }
def T127 : Tab := { T126 with fx := .eqc "Run" (.inr "Join") :: T126.fx }
def T128 : Tab := { T127 with fx := .eqc "Lead" (.inr "Run") :: T127.fx }
def T129 : Tab := { T128 with fx := .eqc "Lead" (.inr "Lead") :: T128.fx }
def T130 : Tab := { T129 with fx := .eqc "Lead" (.inr "Join") :: T129.fx }
def T131 : Tab := { T130 with fx := .eqc "Join" (.inr "Run") :: T130.fx }
def T132 : Tab := { T131 with fx := .eqc "Join" (.inr "Lead") :: T131.fx }
def T133 : Tab := { T132 with fx := .eqc "Join" (.inr "Join") :: T132.fx }
def T134 : Tab := { T133 with fx := .src :: T133.fx }
def st_is_name : Stmt := top 9
def N_is_name : List Str := ["value", "sign"]
def ps_is_name : List Str := ["value"]
theorem sc_is_name : FnScope N_is_name ps_is_name (defScope st_is_name) := ⟨rfl, rfl, rfl, by decide +kernel, rfl, by decide +kernel, by decide +kernel⟩
abbrev TT_is_name : Tab := T134
@[irreducible] def sm_is_name : Sm := semF T134 40 N_is_name ps_is_name (defScope st_is_name) (defBody st_is_name)
def T135 : Tab := { T134 with g := ("is_name", .fn sm_is_name) :: T134.g }
def st_is_sequence : Stmt := top 10
def N_is_sequence : List Str := ["value"]
def ps_is_sequence : List Str := ["value"]
theorem sc_is_sequence : FnScope N_is_sequence ps_is_sequence (defScope st_is_sequence) := ⟨rfl, rfl, rfl, by decide +kernel, rfl, by decide +kernel, by decide +kernel⟩
abbrev TT_is_sequence : Tab := T135
@[irreducible] def sm_is_sequence : Sm := semF T135 40 N_is_sequence ps_is_sequence (defScope st_is_sequence) (defBody st_is_sequence)
def T136 : Tab := { T135 with g := ("is_sequence", .fn sm_is_sequence) :: T135.g }
def st_is_word : Stmt := top 11
def N_is_word : List Str := ["value", "some"]
def ps_is_word : List Str := ["value", "some"]
theorem sc_is_word : FnScope N_is_word ps_is_word (defScope st_is_word) := ⟨rfl, rfl, rfl, by decide +kernel, rfl, by decide +kernel, by decide +kernel⟩
abbrev TT_is_word : Tab := T136
@[irreducible] def sm_is_word : Sm := semF T136 40 N_is_word ps_is_word (defScope st_is_word) (defBody st_is_word)
def T137 : Tab := { T136 with g := ("is_word", .fn sm_is_word) :: T136.g }
def st_are_unlike : Stmt := top 12
def N_are_unlike : List Str := ["words", "word"]
def ps_are_unlike : List Str := ["words"]
theorem sc_are_unlike : FnScope N_are_unlike ps_are_unlike (defScope st_are_unlike) := ⟨rfl, rfl, rfl, by decide +kernel, rfl, by decide +kernel, by decide +kernel⟩
abbrev TT_are_unlike : Tab := T137
@[irreducible] def sm_are_unlike : Sm := semF T137 40 N_are_unlike ps_are_unlike (defScope st_are_unlike) (defBody st_are_unlike)
def T138 : Tab := { T137 with g := ("are_unlike", .fn sm_are_unlike) :: T137.g }
def st_is_old_mark : Stmt := top 16
def N_is_old_mark : List Str := ["value"]
def ps_is_old_mark : List Str := ["value"]
theorem sc_is_old_mark : FnScope N_is_old_mark ps_is_old_mark (defScope st_is_old_mark) := ⟨rfl, rfl, rfl, by decide +kernel, rfl, by decide +kernel, by decide +kernel⟩
abbrev TT_is_old_mark : Tab := T138
@[irreducible] def sm_is_old_mark : Sm := semF T138 40 N_is_old_mark ps_is_old_mark (defScope st_is_old_mark) (defBody st_is_old_mark)
def T139 : Tab := { T138 with g := ("is_old_mark", .fn sm_is_old_mark) :: T138.g }
def st_part_of : Stmt := top 17
def N_part_of : List Str := ["test"]
def ps_part_of : List Str := ["test"]
theorem sc_part_of : FnScope N_part_of ps_part_of (defScope st_part_of) := ⟨rfl, rfl, rfl, by decide +kernel, rfl, by decide +kernel, by decide +kernel⟩
abbrev TT_part_of : Tab := T139
@[irreducible] def sm_part_of : Sm := semF T139 40 N_part_of ps_part_of (defScope st_part_of) (defBody st_part_of)
def T140 : Tab := { T139 with g := ("part_of", .fn sm_part_of) :: T139.g }
def st_are_tests : Stmt := top 18
def N_are_tests : List Str := ["value", "test"]
def ps_are_tests : List Str := ["value"]
theorem sc_are_tests : FnScope N_are_tests ps_are_tests (defScope st_are_tests) := ⟨rfl, rfl, rfl, by decide +kernel, rfl, by decide +kernel, by decide +kernel⟩
abbrev TT_are_tests : Tab := T140
@[irreducible] def sm_are_tests : Sm := semF T140 40 N_are_tests ps_are_tests (defScope st_are_tests) (defBody st_are_tests)
def T141 : Tab := { T140 with g := ("are_tests", .fn sm_are_tests) :: T140.g }
def st_names_among : Stmt := top 19
def N_names_among : List Str := ["words", "word"]
def ps_names_among : List Str := ["words"]
theorem sc_names_among : FnScope N_names_among ps_names_among (defScope st_names_among) := ⟨rfl, rfl, rfl, by decide +kernel, rfl, by decide +kernel, by decide +kernel⟩
abbrev TT_names_among : Tab := T141
@[irreducible] def sm_names_among : Sm := semF T141 40 N_names_among ps_names_among (defScope st_names_among) (defBody st_names_among)
def T142 : Tab := { T141 with g := ("names_among", .fn sm_names_among) :: T141.g }
def st_Run___init__ : Stmt := inClass (top 21) 0
def N_Run___init__ : List Str := ["self", "old", "then"]
def ps_Run___init__ : List Str := ["self", "old", "then"]
theorem sc_Run___init__ : FnScope N_Run___init__ ps_Run___init__ (defScope st_Run___init__) := ⟨rfl, rfl, rfl, by decide +kernel, rfl, by decide +kernel, by decide +kernel⟩
abbrev TT_Run___init__ : Tab := T142
@[irreducible] def sm_Run___init__ : Sm := semI "Run" T142 40 N_Run___init__ ps_Run___init__ (defScope st_Run___init__) (defBody st_Run___init__)
def T143 : Tab := { T142 with g := ("Run", .cls "Run" sm_Run___init__) :: T142.g }
def st_Lead___init__ : Stmt := inClass (top 22) 0
def N_Lead___init__ : List Str := ["self", "tests", "old", "then"]
def ps_Lead___init__ : List Str := ["self", "tests", "old", "then"]
theorem sc_Lead___init__ : FnScope N_Lead___init__ ps_Lead___init__ (defScope st_Lead___init__) := ⟨rfl, rfl, rfl, by decide +kernel, rfl, by decide +kernel, by decide +kernel⟩
abbrev TT_Lead___init__ : Tab := T143
@[irreducible] def sm_Lead___init__ : Sm := semI "Lead" T143 40 N_Lead___init__ ps_Lead___init__ (defScope st_Lead___init__) (defBody st_Lead___init__)
def T144 : Tab := { T143 with g := ("Lead", .cls "Lead" sm_Lead___init__) :: T143.g }
def st_Join___init__ : Stmt := inClass (top 23) 0
def N_Join___init__ : List Str := ["self", "here", "came", "then"]
def ps_Join___init__ : List Str := ["self", "here", "came", "then"]
theorem sc_Join___init__ : FnScope N_Join___init__ ps_Join___init__ (defScope st_Join___init__) := ⟨rfl, rfl, rfl, by decide +kernel, rfl, by decide +kernel, by decide +kernel⟩
abbrev TT_Join___init__ : Tab := T144
@[irreducible] def sm_Join___init__ : Sm := semI "Join" T144 40 N_Join___init__ ps_Join___init__ (defScope st_Join___init__) (defBody st_Join___init__)
def T145 : Tab := { T144 with g := ("Join", .cls "Join" sm_Join___init__) :: T144.g }
def st_Run___str__ : Stmt := inClass (top 21) 1
def N_Run___str__ : List Str := ["self"]
def ps_Run___str__ : List Str := ["self"]
theorem sc_Run___str__ : FnScope N_Run___str__ ps_Run___str__ (defScope st_Run___str__) := ⟨rfl, rfl, rfl, by decide +kernel, rfl, by decide +kernel, by decide +kernel⟩
abbrev TT_Run___str__ : Tab := T145
@[irreducible] def sm_Run___str__ : Sm := semF T145 40 N_Run___str__ ps_Run___str__ (defScope st_Run___str__) (defBody st_Run___str__)
def T146 : Tab := { T145 with ms := (("Run", "__str__"), sm_Run___str__) :: T145.ms }
def st_Lead___str__ : Stmt := inClass (top 22) 1
def N_Lead___str__ : List Str := ["self", "asked"]
def ps_Lead___str__ : List Str := ["self"]
theorem sc_Lead___str__ : FnScope N_Lead___str__ ps_Lead___str__ (defScope st_Lead___str__) := ⟨rfl, rfl, rfl, by decide +kernel, rfl, by decide +kernel, by decide +kernel⟩
abbrev TT_Lead___str__ : Tab := T146
@[irreducible] def sm_Lead___str__ : Sm := semF T146 40 N_Lead___str__ ps_Lead___str__ (defScope st_Lead___str__) (defBody st_Lead___str__)
def T147 : Tab := { T146 with ms := (("Lead", "__str__"), sm_Lead___str__) :: T146.ms }
def st_Join___str__ : Stmt := inClass (top 23) 1
def N_Join___str__ : List Str := ["self"]
def ps_Join___str__ : List Str := ["self"]
theorem sc_Join___str__ : FnScope N_Join___str__ ps_Join___str__ (defScope st_Join___str__) := ⟨rfl, rfl, rfl, by decide +kernel, rfl, by decide +kernel, by decide +kernel⟩
abbrev TT_Join___str__ : Tab := T147
@[irreducible] def sm_Join___str__ : Sm := semF T147 40 N_Join___str__ ps_Join___str__ (defScope st_Join___str__) (defBody st_Join___str__)
def T148 : Tab := { T147 with ms := (("Join", "__str__"), sm_Join___str__) :: T147.ms }
def st_Row___eq__ : Stmt := inClass (top 20) 2
def N_Row___eq__ : List Str := ["self", "other"]
def ps_Row___eq__ : List Str := ["self", "other"]
theorem sc_Row___eq__ : FnScope N_Row___eq__ ps_Row___eq__ (defScope st_Row___eq__) := ⟨rfl, rfl, rfl, by decide +kernel, rfl, by decide +kernel, by decide +kernel⟩
abbrev TT_Row___eq__ : Tab := T148
@[irreducible] def sm_Row___eq__ : Sm := semF T148 40 N_Row___eq__ ps_Row___eq__ (defScope st_Row___eq__) (defBody st_Row___eq__)
def T149 : Tab := { T148 with ms := (("Row", "__eq__"), sm_Row___eq__) :: T148.ms }
def T150 : Tab := { T149 with ms := (("Run", "__eq__"), sm_Row___eq__) :: T149.ms }
def T151 : Tab := { T150 with ms := (("Lead", "__eq__"), sm_Row___eq__) :: T150.ms }
def T152 : Tab := { T151 with ms := (("Join", "__eq__"), sm_Row___eq__) :: T151.ms }
def st_row_in : Stmt := top 24
def N_row_in : List Str := ["words", "asked"]
def ps_row_in : List Str := ["words"]
theorem sc_row_in : FnScope N_row_in ps_row_in (defScope st_row_in) := ⟨rfl, rfl, rfl, by decide +kernel, rfl, by decide +kernel, by decide +kernel⟩
abbrev TT_row_in : Tab := T152
@[irreducible] def sm_row_in : Sm := semF T152 40 N_row_in ps_row_in (defScope st_row_in) (defBody st_row_in)
def T153 : Tab := { T152 with g := ("row_in", .fn sm_row_in) :: T152.g }
def st_Row_read : Stmt := inClass (top 20) 0
def N_Row_read : List Str := ["cls", "text", "e", "found"]
def ps_Row_read : List Str := ["cls", "text"]
theorem sc_Row_read : FnScope N_Row_read ps_Row_read (defScope st_Row_read) := ⟨rfl, rfl, rfl, by decide +kernel, rfl, by decide +kernel, by decide +kernel⟩
abbrev TT_Row_read : Tab := T153
@[irreducible] def sm_Row_read : Sm := semF T153 40 N_Row_read ps_Row_read (defScope st_Row_read) (defBody st_Row_read)
def T154 : Tab := { T153 with cm := (("Row", "read"), sm_Row_read) :: T153.cm }
def st__law_deal : Stmt := top 26
def N__law_deal : List Str := ["_law_script", "_law_base", "_law_cells", "_law_mixed_here", "_law_cell", "_law_great"]
def ps__law_deal : List Str := ["_law_script", "_law_base"]
theorem sc__law_deal : FnScope N__law_deal ps__law_deal (defScope st__law_deal) := ⟨rfl, rfl, rfl, by decide +kernel, rfl, by decide +kernel, by decide +kernel⟩
abbrev TT__law_deal : Tab := T154
@[irreducible] def sx__law_deal : Sm := semF T154 40 N__law_deal ps__law_deal (defScope st__law_deal) (defBody st__law_deal)
def T155 : Tab := { T154 with g := ("_law_deal", .fn smDeal) :: T154.g }
def st__law_draw : Stmt := top 27
def N__law_draw : List Str := ["_law_deal_here", "_law_many", "_law_first", "_law_second", "_law_digit"]
def ps__law_draw : List Str := ["_law_deal_here", "_law_many"]
theorem sc__law_draw : FnScope N__law_draw ps__law_draw (defScope st__law_draw) := ⟨rfl, rfl, rfl, by decide +kernel, rfl, by decide +kernel, by decide +kernel⟩
abbrev TT__law_draw : Tab := T155
@[irreducible] def sx__law_draw : SmO := semO T155 40 N__law_draw ps__law_draw (defScope st__law_draw) (defBody st__law_draw)
def T156 : Tab := { T155 with g := ("_law_draw", .fn smDraw) :: T155.g }
def st__law_pick : Stmt := top 28
def N__law_pick : List Str := ["_law_deal_here", "_law_some"]
def ps__law_pick : List Str := ["_law_deal_here", "_law_some"]
theorem sc__law_pick : FnScope N__law_pick ps__law_pick (defScope st__law_pick) := ⟨rfl, rfl, rfl, by decide +kernel, rfl, by decide +kernel, by decide +kernel⟩
abbrev TT__law_pick : Tab := T156
@[irreducible] def sm__law_pick : Sm := semF T156 40 N__law_pick ps__law_pick (defScope st__law_pick) (defBody st__law_pick)
def T157 : Tab := { T156 with g := ("_law_pick", .fn sm__law_pick) :: T156.g }
def st__law_mixed : Stmt := top 29
def N__law_mixed : List Str := ["_law_deal_here", "_law_some", "_law_left", "_law_found"]
def ps__law_mixed : List Str := ["_law_deal_here", "_law_some"]
theorem sc__law_mixed : FnScope N__law_mixed ps__law_mixed (defScope st__law_mixed) := ⟨rfl, rfl, rfl, by decide +kernel, rfl, by decide +kernel, by decide +kernel⟩
abbrev TT__law_mixed : Tab := T157
@[irreducible] def sm__law_mixed : Sm := semF T157 40 N__law_mixed ps__law_mixed (defScope st__law_mixed) (defBody st__law_mixed)
def T158 : Tab := { T157 with g := ("_law_mixed", .fn sm__law_mixed) :: T157.g }
def st__law_value : Stmt := top 30
def N__law_value : List Str := ["_law_deal_here", "_law_deep", "_law_form", "_law_some", "_law_k"]
def ps__law_value : List Str := ["_law_deal_here", "_law_deep"]
theorem sc__law_value : FnScope N__law_value ps__law_value (defScope st__law_value) := ⟨rfl, rfl, rfl, by decide +kernel, rfl, by decide +kernel, by decide +kernel⟩
abbrev TT__law_value : Tab := T158
@[irreducible] def sm__law_value_0 : Sm := semF T158 40 N__law_value ps__law_value (defScope st__law_value) (defBody st__law_value)
abbrev TT__law_value_0 : Tab := T158
def T159 : Tab := { T158 with g := ("_law_value", .fn sm__law_value_0) :: T158.g }
@[irreducible] def sm__law_value_1 : Sm := semF T159 40 N__law_value ps__law_value (defScope st__law_value) (defBody st__law_value)
abbrev TT__law_value_1 : Tab := T159
def T160 : Tab := { T159 with g := ("_law_value", .fn sm__law_value_1) :: T159.g }
@[irreducible] def sm__law_value_2 : Sm := semF T160 40 N__law_value ps__law_value (defScope st__law_value) (defBody st__law_value)
abbrev TT__law_value_2 : Tab := T160
def T161 : Tab := { T160 with g := ("_law_value", .fn sm__law_value_2) :: T160.g }
@[irreducible] def sm__law_value : Sm := semF T161 40 N__law_value ps__law_value (defScope st__law_value) (defBody st__law_value)
abbrev TR__law_value : Tab := T161
def T162 : Tab := { T161 with g := ("_law_value", .fn sm__law_value) :: T161.g }
def st__law_marks : Stmt := top 31
def N__law_marks : List Str := ["_law_deal_here", "_law_many", "_law_some"]
def ps__law_marks : List Str := ["_law_deal_here", "_law_many"]
theorem sc__law_marks : FnScope N__law_marks ps__law_marks (defScope st__law_marks) := ⟨rfl, rfl, rfl, by decide +kernel, rfl, by decide +kernel, by decide +kernel⟩
abbrev TT__law_marks : Tab := T162
@[irreducible] def sm__law_marks : Sm := semF T162 40 N__law_marks ps__law_marks (defScope st__law_marks) (defBody st__law_marks)
def T163 : Tab := { T162 with g := ("_law_marks", .fn sm__law_marks) :: T162.g }
def st__law_tests : Stmt := top 32
def N__law_tests : List Str := ["_law_deal_here", "_law_found", "_law_part"]
def ps__law_tests : List Str := ["_law_deal_here"]
theorem sc__law_tests : FnScope N__law_tests ps__law_tests (defScope st__law_tests) := ⟨rfl, rfl, rfl, by decide +kernel, rfl, by decide +kernel, by decide +kernel⟩
abbrev TT__law_tests : Tab := T163
@[irreducible] def sm__law_tests : Sm := semF T163 40 N__law_tests ps__law_tests (defScope st__law_tests) (defBody st__law_tests)
def T164 : Tab := { T163 with g := ("_law_tests", .fn sm__law_tests) :: T163.g }
def st__law_row : Stmt := top 33
def N__law_row : List Str := ["_law_deal_here", "_law_marks_here", "_law_form", "_law_here", "_law_came"]
def ps__law_row : List Str := ["_law_deal_here", "_law_marks_here"]
theorem sc__law_row : FnScope N__law_row ps__law_row (defScope st__law_row) := ⟨rfl, rfl, rfl, by decide +kernel, rfl, by decide +kernel, by decide +kernel⟩
abbrev TT__law_row : Tab := T164
@[irreducible] def sm__law_row : Sm := semF T164 40 N__law_row ps__law_row (defScope st__law_row) (defBody st__law_row)
def T165 : Tab := { T164 with g := ("_law_row", .fn sm__law_row) :: T164.g }
def st__law_made : Stmt := top 34
def N__law_made : List Str := ["_law_row_here"]
def ps__law_made : List Str := ["_law_row_here"]
theorem sc__law_made : FnScope N__law_made ps__law_made (defScope st__law_made) := ⟨rfl, rfl, rfl, by decide +kernel, rfl, by decide +kernel, by decide +kernel⟩
abbrev TT__law_made : Tab := T165
@[irreducible] def sm__law_made : Sm := semF T165 40 N__law_made ps__law_made (defScope st__law_made) (defBody st__law_made)
def T166 : Tab := { T165 with g := ("_law_made", .fn sm__law_made) :: T165.g }
def st__law_is_name : Stmt := top 35
def N__law_is_name : List Str := ["_law_value_here", "_law_sign"]
def ps__law_is_name : List Str := ["_law_value_here"]
theorem sc__law_is_name : FnScope N__law_is_name ps__law_is_name (defScope st__law_is_name) := ⟨rfl, rfl, rfl, by decide +kernel, rfl, by decide +kernel, by decide +kernel⟩
abbrev TT__law_is_name : Tab := T166
@[irreducible] def sm__law_is_name : Sm := semF T166 40 N__law_is_name ps__law_is_name (defScope st__law_is_name) (defBody st__law_is_name)
def T167 : Tab := { T166 with g := ("_law_is_name", .fn sm__law_is_name) :: T166.g }
def st__law_is_fit : Stmt := top 36
def N__law_is_fit : List Str := ["_law_value_here", "_law_some"]
def ps__law_is_fit : List Str := ["_law_value_here", "_law_some"]
theorem sc__law_is_fit : FnScope N__law_is_fit ps__law_is_fit (defScope st__law_is_fit) := ⟨rfl, rfl, rfl, by decide +kernel, rfl, by decide +kernel, by decide +kernel⟩
abbrev TT__law_is_fit : Tab := T167
@[irreducible] def sm__law_is_fit : Sm := semF T167 40 N__law_is_fit ps__law_is_fit (defScope st__law_is_fit) (defBody st__law_is_fit)
def T168 : Tab := { T167 with g := ("_law_is_fit", .fn sm__law_is_fit) :: T167.g }
def st__law_are_tests : Stmt := top 37
def N__law_are_tests : List Str := ["_law_value_here", "_law_plain", "_law_twice", "_law_one", "_law_at"]
def ps__law_are_tests : List Str := ["_law_value_here"]
theorem sc__law_are_tests : FnScope N__law_are_tests ps__law_are_tests (defScope st__law_are_tests) := ⟨rfl, rfl, rfl, by decide +kernel, rfl, by decide +kernel, by decide +kernel⟩
abbrev TT__law_are_tests : Tab := T168
@[irreducible] def sm__law_are_tests : Sm := semF T168 40 N__law_are_tests ps__law_are_tests (defScope st__law_are_tests) (defBody st__law_are_tests)
def T169 : Tab := { T168 with g := ("_law_are_tests", .fn sm__law_are_tests) :: T168.g }
def st__law_wrong : Stmt := top 38
def N__law_wrong : List Str := ["_law_row_here", "_law_wrong_here", "_law_found", "_law_word", "_law_fits"]
def ps__law_wrong : List Str := ["_law_row_here"]
theorem sc__law_wrong : FnScope N__law_wrong ps__law_wrong (defScope st__law_wrong) := ⟨rfl, rfl, rfl, by decide +kernel, rfl, by decide +kernel, by decide +kernel⟩
abbrev TT__law_wrong : Tab := T169
@[irreducible] def sm__law_wrong : Sm := semF T169 40 N__law_wrong ps__law_wrong (defScope st__law_wrong) (defBody st__law_wrong)
def T170 : Tab := { T169 with g := ("_law_wrong", .fn sm__law_wrong) :: T169.g }
def st__law_told : Stmt := top 39
def N__law_told : List Str := ["_law_row_here", "_law_found", "e"]
def ps__law_told : List Str := ["_law_row_here"]
theorem sc__law_told : FnScope N__law_told ps__law_told (defScope st__law_told) := ⟨rfl, rfl, rfl, by decide +kernel, rfl, by decide +kernel, by decide +kernel⟩
abbrev TT__law_told : Tab := T170
@[irreducible] def sm__law_told : Sm := semF T170 40 N__law_told ps__law_told (defScope st__law_told) (defBody st__law_told)
def T171 : Tab := { T170 with g := ("_law_told", .fn sm__law_told) :: T170.g }
def st__law_odd : Stmt := top 40
def N__law_odd : List Str := ["_law_deal_here", "_law_some"]
def ps__law_odd : List Str := ["_law_deal_here"]
theorem sc__law_odd : FnScope N__law_odd ps__law_odd (defScope st__law_odd) := ⟨rfl, rfl, rfl, by decide +kernel, rfl, by decide +kernel, by decide +kernel⟩
abbrev TT__law_odd : Tab := T171
@[irreducible] def sm__law_odd : Sm := semF T171 40 N__law_odd ps__law_odd (defScope st__law_odd) (defBody st__law_odd)
def T172 : Tab := { T171 with g := ("_law_odd", .fn sm__law_odd) :: T171.g }
def st_law : Stmt := top 41
def N_law : List Str := ["_law_script", "_law_deal_here", "_law_turn", "_law_word", "_law_row_here", "_law_more"]
def ps_law : List Str := ["_law_script"]
theorem sc_law : FnScope N_law ps_law (defScope st_law) := ⟨rfl, rfl, rfl, by decide +kernel, rfl, by decide +kernel, by decide +kernel⟩
abbrev TT_law : Tab := T172
@[irreducible] def sm_law : Sm := semF T172 40 N_law ps_law (defScope st_law) (defBody st_law)
def T173 : Tab := { T172 with g := ("law", .fn sm_law) :: T172.g }
def fn : List He.DefD := [
  ⟨("is_name", none), "is_name", "is_name", defArgs st_is_name, defBody st_is_name, defScope st_is_name, [], []⟩,
  ⟨("is_sequence", none), "is_sequence", "is_sequence", defArgs st_is_sequence, defBody st_is_sequence, defScope st_is_sequence, [], []⟩,
  ⟨("is_word", none), "is_word", "is_word", defArgs st_is_word, defBody st_is_word, defScope st_is_word, [], []⟩,
  ⟨("are_unlike", none), "are_unlike", "are_unlike", defArgs st_are_unlike, defBody st_are_unlike, defScope st_are_unlike, [], []⟩,
  ⟨("is_old_mark", none), "is_old_mark", "is_old_mark", defArgs st_is_old_mark, defBody st_is_old_mark, defScope st_is_old_mark, [], []⟩,
  ⟨("part_of", none), "part_of", "part_of", defArgs st_part_of, defBody st_part_of, defScope st_part_of, [], []⟩,
  ⟨("are_tests", none), "are_tests", "are_tests", defArgs st_are_tests, defBody st_are_tests, defScope st_are_tests, [], []⟩,
  ⟨("names_among", none), "names_among", "names_among", defArgs st_names_among, defBody st_names_among, defScope st_names_among, [], []⟩,
  ⟨("Run", some "__init__"), "__init__", "Run.__init__", defArgs st_Run___init__, defBody st_Run___init__, defScope st_Run___init__, [], []⟩,
  ⟨("Lead", some "__init__"), "__init__", "Lead.__init__", defArgs st_Lead___init__, defBody st_Lead___init__, defScope st_Lead___init__, [], []⟩,
  ⟨("Join", some "__init__"), "__init__", "Join.__init__", defArgs st_Join___init__, defBody st_Join___init__, defScope st_Join___init__, [], []⟩,
  ⟨("Run", some "__str__"), "__str__", "Run.__str__", defArgs st_Run___str__, defBody st_Run___str__, defScope st_Run___str__, [], []⟩,
  ⟨("Lead", some "__str__"), "__str__", "Lead.__str__", defArgs st_Lead___str__, defBody st_Lead___str__, defScope st_Lead___str__, [], []⟩,
  ⟨("Join", some "__str__"), "__str__", "Join.__str__", defArgs st_Join___str__, defBody st_Join___str__, defScope st_Join___str__, [], []⟩,
  ⟨("Row", some "__eq__"), "__eq__", "Row.__eq__", defArgs st_Row___eq__, defBody st_Row___eq__, defScope st_Row___eq__, [], []⟩,
  ⟨("row_in", none), "row_in", "row_in", defArgs st_row_in, defBody st_row_in, defScope st_row_in, [], []⟩,
  ⟨("_law_deal", none), "_law_deal", "_law_deal", defArgs st__law_deal, defBody st__law_deal, defScope st__law_deal, [], []⟩,
  ⟨("_law_draw", none), "_law_draw", "_law_draw", defArgs st__law_draw, defBody st__law_draw, defScope st__law_draw, [], []⟩,
  ⟨("_law_pick", none), "_law_pick", "_law_pick", defArgs st__law_pick, defBody st__law_pick, defScope st__law_pick, [], []⟩,
  ⟨("_law_mixed", none), "_law_mixed", "_law_mixed", defArgs st__law_mixed, defBody st__law_mixed, defScope st__law_mixed, [], []⟩,
  ⟨("_law_value", none), "_law_value", "_law_value", defArgs st__law_value, defBody st__law_value, defScope st__law_value, [], []⟩,
  ⟨("_law_marks", none), "_law_marks", "_law_marks", defArgs st__law_marks, defBody st__law_marks, defScope st__law_marks, [], []⟩,
  ⟨("_law_tests", none), "_law_tests", "_law_tests", defArgs st__law_tests, defBody st__law_tests, defScope st__law_tests, [], []⟩,
  ⟨("_law_row", none), "_law_row", "_law_row", defArgs st__law_row, defBody st__law_row, defScope st__law_row, [], []⟩,
  ⟨("_law_made", none), "_law_made", "_law_made", defArgs st__law_made, defBody st__law_made, defScope st__law_made, [], []⟩,
  ⟨("_law_is_name", none), "_law_is_name", "_law_is_name", defArgs st__law_is_name, defBody st__law_is_name, defScope st__law_is_name, [], []⟩,
  ⟨("_law_is_fit", none), "_law_is_fit", "_law_is_fit", defArgs st__law_is_fit, defBody st__law_is_fit, defScope st__law_is_fit, [], []⟩,
  ⟨("_law_are_tests", none), "_law_are_tests", "_law_are_tests", defArgs st__law_are_tests, defBody st__law_are_tests, defScope st__law_are_tests, [], []⟩,
  ⟨("_law_wrong", none), "_law_wrong", "_law_wrong", defArgs st__law_wrong, defBody st__law_wrong, defScope st__law_wrong, [], []⟩,
  ⟨("_law_told", none), "_law_told", "_law_told", defArgs st__law_told, defBody st__law_told, defScope st__law_told, [], []⟩,
  ⟨("_law_odd", none), "_law_odd", "_law_odd", defArgs st__law_odd, defBody st__law_odd, defScope st__law_odd, [], []⟩,
  ⟨("law", none), "law", "law", defArgs st_law, defBody st_law, defScope st_law, [], []⟩]
def fa : List He.Fa := [
  .free "len",
  .free "isinstance",
  .free "all",
  .free "range",
  .free "enumerate",
  .free "zip",
  .free "abs",
  .free "repr",
  .free "max",
  .free "min",
  .free "int",
  .free "str",
  .free "bool",
  .free "list",
  .free "tuple",
  .str "SMALL" "abcdefghijklmnopqrstuvwxyz",
  .glo "BARRED",
  .glo "PARTS",
  .glo "ANY",
  .glo "SIDES",
  .cls "Run",
  .noat "Run" "old",
  .noat "Run" "then",
  .noat "Run" "names",
  .cls "Lead",
  .noat "Lead" "tests",
  .noat "Lead" "old",
  .noat "Lead" "then",
  .noat "Lead" "names",
  .cls "Join",
  .noat "Join" "here",
  .noat "Join" "came",
  .noat "Join" "then",
  .noat "Join" "names",
  .glo "Row",
  .glo "InvalidRow",
  .glo "InvalidText",
  .glo "InvalidTool",
  .glo "MarkError",
  .free "super",
  .glo "is_name",
  .glo "is_sequence",
  .glo "is_word",
  .glo "are_unlike",
  .glo "is_old_mark",
  .glo "part_of",
  .glo "are_tests",
  .glo "names_among",
  .glo "Run",
  .mkr "Run",
  .glo "Lead",
  .mkr "Lead",
  .glo "Join",
  .mkr "Join",
  .meth "Run" "__str__",
  .meth "Lead" "__str__",
  .meth "Join" "__str__",
  .cls "Row",
  .meth "Row" "__eq__",
  .meth "Run" "__eq__",
  .meth "Lead" "__eq__",
  .meth "Join" "__eq__",
  .glo "row_in",
  .glo "_law_deal",
  .glo "_law_draw",
  .glo "_law_pick",
  .glo "_law_mixed",
  .glo "_law_value",
  .glo "_law_marks",
  .glo "_law_tests",
  .glo "_law_row",
  .glo "_law_made",
  .glo "_law_is_name",
  .glo "_law_is_fit",
  .glo "_law_are_tests",
  .glo "_law_wrong",
  .glo "_law_told",
  .glo "_law_odd",
  .glo "law"]
def fb : List Fb := [
  .strs "BARRED" ["and", "any", "came", "here", "not", "own", "to"],
  .strs "PARTS" ["above", "below", "own"],
  .strs "ANY" ["any"],
  .strs "SIDES" ["here", "came"],
  .isi (.inl "NoneType") (.inl "int") false,
  .isi (.inl "NoneType") (.inl "bool") false,
  .isi (.inl "NoneType") (.inl "str") false,
  .isi (.inl "NoneType") (.inl "list") false,
  .isi (.inl "NoneType") (.inl "tuple") false,
  .isi (.inl "bool") (.inl "int") true,
  .isi (.inl "bool") (.inl "bool") true,
  .isi (.inl "bool") (.inl "str") false,
  .isi (.inl "bool") (.inl "list") false,
  .isi (.inl "bool") (.inl "tuple") false,
  .isi (.inl "int") (.inl "int") true,
  .isi (.inl "int") (.inl "bool") false,
  .isi (.inl "int") (.inl "str") false,
  .isi (.inl "int") (.inl "list") false,
  .isi (.inl "int") (.inl "tuple") false,
  .isi (.inl "str") (.inl "int") false,
  .isi (.inl "str") (.inl "bool") false,
  .isi (.inl "str") (.inl "str") true,
  .isi (.inl "str") (.inl "list") false,
  .isi (.inl "str") (.inl "tuple") false,
  .isi (.inl "list") (.inl "int") false,
  .isi (.inl "list") (.inl "bool") false,
  .isi (.inl "list") (.inl "str") false,
  .isi (.inl "list") (.inl "list") true,
  .isi (.inl "list") (.inl "tuple") false,
  .isi (.inl "tuple") (.inl "int") false,
  .isi (.inl "tuple") (.inl "bool") false,
  .isi (.inl "tuple") (.inl "str") false,
  .isi (.inl "tuple") (.inl "list") false,
  .isi (.inl "tuple") (.inl "tuple") true,
  .clsI "Run",
  .isi (.inr "Run") (.inr "Row") true,
  .isi (.inr "Run") (.inr "Run") true,
  .isi (.inr "Run") (.inr "Lead") false,
  .isi (.inr "Run") (.inr "Join") false,
  .isi (.inr "Run") (.inl "int") false,
  .isi (.inr "Run") (.inl "bool") false,
  .isi (.inr "Run") (.inl "str") false,
  .isi (.inr "Run") (.inl "list") false,
  .isi (.inr "Run") (.inl "tuple") false,
  .clsI "Lead",
  .isi (.inr "Lead") (.inr "Row") true,
  .isi (.inr "Lead") (.inr "Run") false,
  .isi (.inr "Lead") (.inr "Lead") true,
  .isi (.inr "Lead") (.inr "Join") false,
  .isi (.inr "Lead") (.inl "int") false,
  .isi (.inr "Lead") (.inl "bool") false,
  .isi (.inr "Lead") (.inl "str") false,
  .isi (.inr "Lead") (.inl "list") false,
  .isi (.inr "Lead") (.inl "tuple") false,
  .clsI "Join",
  .isi (.inr "Join") (.inr "Row") true,
  .isi (.inr "Join") (.inr "Run") false,
  .isi (.inr "Join") (.inr "Lead") false,
  .isi (.inr "Join") (.inr "Join") true,
  .isi (.inr "Join") (.inl "int") false,
  .isi (.inr "Join") (.inl "bool") false,
  .isi (.inr "Join") (.inl "str") false,
  .isi (.inr "Join") (.inl "list") false,
  .isi (.inr "Join") (.inl "tuple") false,
  .isi (.inl "NoneType") (.inr "Run") false,
  .isi (.inl "NoneType") (.inr "Lead") false,
  .isi (.inl "NoneType") (.inr "Join") false,
  .isi (.inl "NoneType") (.inr "Row") false,
  .isi (.inl "bool") (.inr "Run") false,
  .isi (.inl "bool") (.inr "Lead") false,
  .isi (.inl "bool") (.inr "Join") false,
  .isi (.inl "bool") (.inr "Row") false,
  .isi (.inl "int") (.inr "Run") false,
  .isi (.inl "int") (.inr "Lead") false,
  .isi (.inl "int") (.inr "Join") false,
  .isi (.inl "int") (.inr "Row") false,
  .isi (.inl "str") (.inr "Run") false,
  .isi (.inl "str") (.inr "Lead") false,
  .isi (.inl "str") (.inr "Join") false,
  .isi (.inl "str") (.inr "Row") false,
  .isi (.inl "list") (.inr "Run") false,
  .isi (.inl "list") (.inr "Lead") false,
  .isi (.inl "list") (.inr "Join") false,
  .isi (.inl "list") (.inr "Row") false,
  .isi (.inl "tuple") (.inr "Run") false,
  .isi (.inl "tuple") (.inr "Lead") false,
  .isi (.inl "tuple") (.inr "Join") false,
  .isi (.inl "tuple") (.inr "Row") false,
  .exc "InvalidRow" "word" 0 "InvalidRow.__init__" (PySem.Challenge.pw_ledmarks_k03_rows_refused.main.file : Str),
  .xat "InvalidRow" "word",
  .isx "InvalidRow" (.inr "MarkError") true,
  .isx "InvalidRow" (.inr "InvalidTool") false,
  .exm "InvalidRow" "InvalidRow" true,
  .eqc "Run" (.inr "Run"),
  .eqc "Run" (.inr "Lead"),
  .eqc "Run" (.inr "Join"),
  .eqc "Lead" (.inr "Run"),
  .eqc "Lead" (.inr "Lead"),
  .eqc "Lead" (.inr "Join"),
  .eqc "Join" (.inr "Run"),
  .eqc "Join" (.inr "Lead"),
  .eqc "Join" (.inr "Join"),
  .inh "Run" "Row" "__eq__",
  .inh "Lead" "Row" "__eq__",
  .inh "Join" "Row" "__eq__",
  .cmr "Row" "read"]
def cs : List He.DefD := [
  ⟨("Row", some "read"), "read", "Row.read", defArgs st_Row_read, defBody st_Row_read, defScope st_Row_read, [], []⟩]
def ex : List ExD := [
  ⟨"InvalidRow", "__init__", "InvalidRow.__init__", defArgs st_x_InvalidRow, initB "self" "word" "word" ⟨7, 8, 7, 13⟩ ⟨7, 8, 7, 15⟩ ⟨7, 8, 7, 24⟩ ⟨7, 25, 7, 29⟩ ⟨7, 8, 7, 30⟩ ⟨7, 8, 7, 30⟩ ⟨8, 8, 8, 12⟩ ⟨8, 8, 8, 17⟩ ⟨8, 20, 8, 24⟩ ⟨8, 8, 8, 24⟩, defScope st_x_InvalidRow⟩]
end Lw

set_option Elab.async false
set_option linter.all false
set_option maxRecDepth 100000
set_option maxHeartbeats 0
set_option pp.maxSteps 400
namespace Lw
open PySem PySem.Spec PyProof.Rows L2 DL
/-! the source of draws (laws with deals) -/
section
variable {kd : D → Prop} {kx : DX → Prop}
theorem hx__law_draw : ∀ kb a b c n, kb % 2 = 1 → 0 < n → n < 1073741824 → sx__law_draw (.dic srcKs [.box kb, .int a, .int b, .int c]) [.int n] (fun d d' => ∃ j a' b' c', d = .int j ∧ 0 ≤ j ∧ j < n ∧ d' = .dic srcKs [.box kb, .int a', .int b', .int c']) (fun _ => False) := by
  intro kb a b c n hk h0 h1
  have hb : ∀ x : Int, 0 ≤ x % 2147483629 ∧ x % 2147483629 < 2147483629 := fun x => ⟨Int.emod_nonneg _ (by decide), Int.emod_lt_of_pos _ (by decide)⟩
  unfold sx__law_draw
  refine ⟨rfl, ?_⟩
  conv => whnf
  repeat ((with_reducible refine And.intro ?_ ?_); (focus (first | omega | rfl | exact True.intro | exact ⟨rfl, rfl⟩ | exact .inl rfl | exact of_decide_eq_true rfl | exact ⟨rfl, of_decide_eq_true rfl⟩ | decide | assumption | exact .inl ⟨of_decide_eq_true rfl, of_decide_eq_true rfl⟩ | exact .inr ⟨of_decide_eq_true rfl, of_decide_eq_true rfl⟩ | exact ⟨by omega, by omega⟩)); conv => whnf)
  refine ⟨⟨rfl, hk⟩, fun a' => ?_⟩
  conv => whnf
  repeat ((with_reducible refine And.intro ?_ ?_); (focus (first | omega | rfl | exact True.intro | exact ⟨rfl, rfl⟩ | exact .inl rfl | exact of_decide_eq_true rfl | exact ⟨rfl, of_decide_eq_true rfl⟩ | decide | assumption | exact .inl ⟨of_decide_eq_true rfl, of_decide_eq_true rfl⟩ | exact .inr ⟨of_decide_eq_true rfl, of_decide_eq_true rfl⟩ | exact ⟨by omega, by omega⟩)); conv => whnf)
  have hs := sizeLine_eq
  have hz : ∀ xs : List D, setSz (.dic srcKs xs) := fun xs => by show (4 : Nat) < sizeLine; omega
  by_cases ha : 0 < a'
  · refine ite_t (by simpa using ha) ?_
    conv => whnf
    repeat ((with_reducible refine And.intro ?_ ?_); (focus (first | omega | rfl | exact True.intro | exact ⟨rfl, rfl⟩ | exact .inl rfl | exact of_decide_eq_true rfl | exact ⟨rfl, of_decide_eq_true rfl⟩ | decide | assumption | exact .inl ⟨of_decide_eq_true rfl, of_decide_eq_true rfl⟩ | exact .inr ⟨of_decide_eq_true rfl, of_decide_eq_true rfl⟩ | exact ⟨by omega, by omega⟩)); conv => whnf)
    refine ⟨hz _, ?_⟩
    conv => whnf
    repeat ((with_reducible refine And.intro ?_ ?_); (focus (first | omega | rfl | exact True.intro | exact ⟨rfl, rfl⟩ | exact .inl rfl | exact of_decide_eq_true rfl | exact ⟨rfl, of_decide_eq_true rfl⟩ | decide | assumption | exact .inl ⟨of_decide_eq_true rfl, of_decide_eq_true rfl⟩ | exact .inr ⟨of_decide_eq_true rfl, of_decide_eq_true rfl⟩ | exact ⟨by omega, by omega⟩)); conv => whnf)
    exact ⟨_, _, _, _, rfl, Int.emod_nonneg _ (by omega), Int.emod_lt_of_pos _ h0, rfl⟩
  · refine ite_f (by simpa using ha) ?_
    conv => whnf
    repeat ((with_reducible refine And.intro ?_ ?_); (focus (first | omega | rfl | exact True.intro | exact ⟨rfl, rfl⟩ | exact .inl rfl | exact of_decide_eq_true rfl | exact ⟨rfl, of_decide_eq_true rfl⟩ | decide | assumption | exact .inl ⟨of_decide_eq_true rfl, of_decide_eq_true rfl⟩ | exact .inr ⟨of_decide_eq_true rfl, of_decide_eq_true rfl⟩ | exact ⟨by omega, by omega⟩)); conv => whnf)
    refine ⟨hz _, ?_⟩
    conv => whnf
    repeat ((with_reducible refine And.intro ?_ ?_); (focus (first | omega | rfl | exact True.intro | exact ⟨rfl, rfl⟩ | exact .inl rfl | exact of_decide_eq_true rfl | exact ⟨rfl, of_decide_eq_true rfl⟩ | decide | assumption | exact .inl ⟨of_decide_eq_true rfl, of_decide_eq_true rfl⟩ | exact .inr ⟨of_decide_eq_true rfl, of_decide_eq_true rfl⟩ | exact ⟨by omega, by omega⟩)); conv => whnf)
    refine ⟨.inl ⟨by have := hb (b * 48271 + (c + 1) * 69621); omega, by have := hb (b * 48271 + (c + 1) * 69621); omega⟩, ?_⟩
    conv => whnf
    repeat ((with_reducible refine And.intro ?_ ?_); (focus (first | omega | rfl | exact True.intro | exact ⟨rfl, rfl⟩ | exact .inl rfl | exact of_decide_eq_true rfl | exact ⟨rfl, of_decide_eq_true rfl⟩ | decide | assumption | exact .inl ⟨of_decide_eq_true rfl, of_decide_eq_true rfl⟩ | exact .inr ⟨of_decide_eq_true rfl, of_decide_eq_true rfl⟩ | exact ⟨by omega, by omega⟩)); conv => whnf)
    refine ⟨hz _, ?_⟩
    conv => whnf
    repeat ((with_reducible refine And.intro ?_ ?_); (focus (first | omega | rfl | exact True.intro | exact ⟨rfl, rfl⟩ | exact .inl rfl | exact of_decide_eq_true rfl | exact ⟨rfl, of_decide_eq_true rfl⟩ | decide | assumption | exact .inl ⟨of_decide_eq_true rfl, of_decide_eq_true rfl⟩ | exact .inr ⟨of_decide_eq_true rfl, of_decide_eq_true rfl⟩ | exact ⟨by omega, by omega⟩)); conv => whnf)
    exact ⟨_, _, _, _, rfl, Int.emod_nonneg _ (by omega), Int.emod_lt_of_pos _ h0, rfl⟩
theorem cut_le {ns : List Int} {k : Int} : (cutL ns (some k) (some 63)).length ≤ 63 := by
  unfold cutL
  rw [List.length_take]
  have : HT.sIx ns.length ns.length (some 63) ≤ 63 := by
    unfold HT.sIx
    simp
    try omega
  omega
def absD : D → D
  | .int i => .int (if i < 0 then -i else i)
  | d => d
def bigD : D → Option D
  | .int i => if 1000000000000000000 ≤ i then some (.int i) else none
  | _ => none
theorem big_ints : ∀ gs : List Int, ∃ hs : List Int, (gs.map D.int).filterMap bigD = hs.map D.int
  | [] => ⟨[], rfl⟩
  | g :: gs => by
    obtain ⟨hs, e⟩ := big_ints gs
    rw [List.map_cons, List.filterMap_cons]
    by_cases h : 1000000000000000000 ≤ g
    · rw [show bigD (.int g) = some (.int g) by unfold bigD; exact if_pos h]; exact ⟨g :: hs, by rw [e]; rfl⟩
    · rw [show bigD (.int g) = none by unfold bigD; exact if_neg h]; exact ⟨hs, e⟩
theorem hx__law_deal : ∀ ns k, 0 ≤ k → sx__law_deal [.scr ns, .int k] (fun d => ∃ (gs : List Int) (a b c : Int), d = .dic srcKs [.lst (gs.map D.int), .int a, .int b, .int c]) (fun _ => False) := by
  intro ns k h0
  have hs := sizeLine_eq
  have hl : ((cutL ns (some k) (some 63)).map D.int).length ≤ 63 := by rw [List.length_map]; exact cut_le
  unfold sx__law_deal
  refine ⟨rfl, ?_⟩
  conv => whnf
  repeat ((with_reducible refine And.intro ?_ ?_); (focus (first | omega | rfl | exact True.intro | exact ⟨rfl, rfl⟩ | exact .inl rfl | exact of_decide_eq_true rfl | exact ⟨rfl, of_decide_eq_true rfl⟩ | decide | assumption | exact .inl ⟨of_decide_eq_true rfl, of_decide_eq_true rfl⟩ | exact .inr ⟨of_decide_eq_true rfl, of_decide_eq_true rfl⟩ | exact ⟨by omega, by omega⟩)); conv => whnf)
  refine compM absD (by omega) (fun d k' hd hk => ?_) ?_
  · obtain ⟨c, _, rfl⟩ := List.mem_map.mp hd
    conv => whnf
    repeat ((with_reducible refine And.intro ?_ ?_); (focus (first | omega | rfl | exact True.intro | exact ⟨rfl, rfl⟩ | exact .inl rfl | exact of_decide_eq_true rfl | exact ⟨rfl, of_decide_eq_true rfl⟩ | decide | assumption | exact .inl ⟨of_decide_eq_true rfl, of_decide_eq_true rfl⟩ | exact .inr ⟨of_decide_eq_true rfl, of_decide_eq_true rfl⟩ | exact ⟨by omega, by omega⟩)); conv => whnf)
    exact hk
  have e1 : ((cutL ns (some k) (some 63)).map D.int).map absD = ((cutL ns (some k) (some 63)).map fun i => if i < 0 then -i else i).map D.int := by
    rw [List.map_map, List.map_map]; rfl
  rw [e1]
  have hl2 : ((cutL ns (some k) (some 63)).map fun i => if i < 0 then -i else i).length ≤ 63 := by rw [List.length_map]; exact cut_le
  generalize ((cutL ns (some k) (some 63)).map fun i => if i < 0 then -i else i) = cs at hl2 ⊢
  conv => whnf
  repeat ((with_reducible refine And.intro ?_ ?_); (focus (first | omega | rfl | exact True.intro | exact ⟨rfl, rfl⟩ | exact .inl rfl | exact of_decide_eq_true rfl | exact ⟨rfl, of_decide_eq_true rfl⟩ | decide | assumption | exact .inl ⟨of_decide_eq_true rfl, of_decide_eq_true rfl⟩ | exact .inr ⟨of_decide_eq_true rfl, of_decide_eq_true rfl⟩ | exact ⟨by omega, by omega⟩)); conv => whnf)
  refine forI (fun l ρ => ∃ (js : List Int) (m : Int) (a : Option S), l = js.map D.int ∧ ρ = [some (.fr (.scr ns)), some (.fr (.int k)), some (.fr (.lst (cs.map D.int))), some (.fr (.int m)), a, none]) ⟨cs, _, none, rfl, rfl⟩ ?_ ?_
  · rintro d ds ρ ⟨js, m, a, e, rfl⟩ ih
    cases js with
    | nil => cases e
    | cons j js =>
      cases e
      conv => whnf
      repeat ((with_reducible refine And.intro ?_ ?_); (focus (first | omega | rfl | exact True.intro | exact ⟨rfl, rfl⟩ | exact .inl rfl | exact of_decide_eq_true rfl | exact ⟨rfl, of_decide_eq_true rfl⟩ | decide | assumption | exact .inl ⟨of_decide_eq_true rfl, of_decide_eq_true rfl⟩ | exact .inr ⟨of_decide_eq_true rfl, of_decide_eq_true rfl⟩ | exact ⟨by omega, by omega⟩)); conv => whnf)
      exact ih _ ⟨js, _, _, rfl, rfl⟩
  · rintro ρ ⟨js, m, a, e, rfl⟩
    conv => whnf
    repeat ((with_reducible refine And.intro ?_ ?_); (focus (first | omega | rfl | exact True.intro | exact ⟨rfl, rfl⟩ | exact .inl rfl | exact of_decide_eq_true rfl | exact ⟨rfl, of_decide_eq_true rfl⟩ | decide | assumption | exact .inl ⟨of_decide_eq_true rfl, of_decide_eq_true rfl⟩ | exact .inr ⟨of_decide_eq_true rfl, of_decide_eq_true rfl⟩ | exact ⟨by omega, by omega⟩)); conv => whnf)
    have hl3 : (cs.map D.int).length ≤ sizeLine := by rw [List.length_map]; omega
    refine compF bigD hl3 (fun d k' hd hk => ?_) ?_
    · obtain ⟨c, _, rfl⟩ := List.mem_map.mp hd
      conv => whnf
      repeat ((with_reducible refine And.intro ?_ ?_); (focus (first | omega | rfl | exact True.intro | exact ⟨rfl, rfl⟩ | exact .inl rfl | exact of_decide_eq_true rfl | exact ⟨rfl, of_decide_eq_true rfl⟩ | decide | assumption | exact .inl ⟨of_decide_eq_true rfl, of_decide_eq_true rfl⟩ | exact .inr ⟨of_decide_eq_true rfl, of_decide_eq_true rfl⟩ | exact ⟨by omega, by omega⟩)); conv => whnf)
      refine ite_d (fun h => ?_) (fun h => ?_)
      · have h : (1000000000000000000 : Int) ≤ c := by simpa using h
        rw [show bigD (.int c) = some (.int c) by unfold bigD; exact if_pos h] at hk
        conv => whnf
        repeat ((with_reducible refine And.intro ?_ ?_); (focus (first | omega | rfl | exact True.intro | exact ⟨rfl, rfl⟩ | exact .inl rfl | exact of_decide_eq_true rfl | exact ⟨rfl, of_decide_eq_true rfl⟩ | decide | assumption | exact .inl ⟨of_decide_eq_true rfl, of_decide_eq_true rfl⟩ | exact .inr ⟨of_decide_eq_true rfl, of_decide_eq_true rfl⟩ | exact ⟨by omega, by omega⟩)); conv => whnf)
        exact hk
      · have h : ¬ (1000000000000000000 : Int) ≤ c := by simpa using h
        rw [show bigD (.int c) = none by unfold bigD; exact if_neg h] at hk
        exact hk
    · obtain ⟨gs, e⟩ := big_ints cs
      rw [e]
      conv => whnf
      repeat ((with_reducible refine And.intro ?_ ?_); (focus (first | omega | rfl | exact True.intro | exact ⟨rfl, rfl⟩ | exact .inl rfl | exact of_decide_eq_true rfl | exact ⟨rfl, of_decide_eq_true rfl⟩ | decide | assumption | exact .inl ⟨of_decide_eq_true rfl, of_decide_eq_true rfl⟩ | exact .inr ⟨of_decide_eq_true rfl, of_decide_eq_true rfl⟩ | exact ⟨by omega, by omega⟩)); conv => whnf)
      exact ⟨gs.reverse, _, _, _, by rw [List.map_reverse]; rfl⟩
theorem draw_i {n : Int} {kd : D → Prop} {kx : DX → Prop} (h0 : 0 < n) (h1 : n < 1073741824) (h : ∀ j : Int, 0 ≤ j → j < n → kd (.int j)) : smDraw [.src, .int n] kd kx := ⟨n, rfl, h0, h1, h⟩
theorem pick_ok {xs : List D} (hx : xs ≠ []) (hl : xs.length < 1073741824) (h : ∀ d ∈ xs, kd d) : sm__law_pick [.src, .lst xs] kd kx := by
  unfold sm__law_pick
  refine ⟨rfl, ?_⟩
  conv => whnf
  repeat ((with_reducible refine And.intro ?_ ?_); (focus (first | omega | rfl | exact True.intro | exact ⟨rfl, rfl⟩ | exact .inl rfl | exact of_decide_eq_true rfl | exact ⟨rfl, of_decide_eq_true rfl⟩ | decide | assumption | exact .inl ⟨of_decide_eq_true rfl, of_decide_eq_true rfl⟩ | exact .inr ⟨of_decide_eq_true rfl, of_decide_eq_true rfl⟩ | exact ⟨by omega, by omega⟩)); conv => whnf)
  have h0 : 0 < xs.length := List.length_pos_iff.mpr hx
  refine ⟨xs.length, rfl, by omega, by omega, fun j j0 j1 => ?_⟩
  conv => whnf
  repeat ((with_reducible refine And.intro ?_ ?_); (focus (first | omega | rfl | exact True.intro | exact ⟨rfl, rfl⟩ | exact .inl rfl | exact of_decide_eq_true rfl | exact ⟨rfl, of_decide_eq_true rfl⟩ | decide | assumption | exact .inl ⟨of_decide_eq_true rfl, of_decide_eq_true rfl⟩ | exact .inr ⟨of_decide_eq_true rfl, of_decide_eq_true rfl⟩ | exact ⟨by omega, by omega⟩)); conv => whnf)
  obtain ⟨d, hd, e⟩ := atI_some (xs := xs) j0 j1
  rw [e]
  conv => whnf
  repeat ((with_reducible refine And.intro ?_ ?_); (focus (first | omega | rfl | exact True.intro | exact ⟨rfl, rfl⟩ | exact .inl rfl | exact of_decide_eq_true rfl | exact ⟨rfl, of_decide_eq_true rfl⟩ | decide | assumption | exact .inl ⟨of_decide_eq_true rfl, of_decide_eq_true rfl⟩ | exact .inr ⟨of_decide_eq_true rfl, of_decide_eq_true rfl⟩ | exact ⟨by omega, by omega⟩)); conv => whnf)
  exact h d hd
end
end Lw

set_option Elab.async false
set_option linter.all false
set_option maxRecDepth 100000
set_option maxHeartbeats 0
set_option pp.maxSteps 400
namespace Lw
open PySem PySem.Spec PyProof.Rows L2 DL
section
variable {kd : D → Prop} {kx : DX → Prop}
theorem toPy_strs (zs : List Str) : toPy (.lst (zs.map D.str)) = some (.list (zs.map PyData.str)) := toPy_lst (g := D.str) (h := PyData.str) fun x _ => rfl
theorem shape_strs {zs : List Str} (h : ∀ z ∈ zs, PyData.canLay0 (.str z) = true) : SeqAt.shaped (.list (zs.map PyData.str)) = true := shape_lst fun x hx => ⟨h x hx, by show 0 ≤ 60; decide⟩
theorem erase_perm {α : Type} : ∀ (l : List α) (i : Nat) (h : i < l.length), (l[i] :: l.eraseIdx i).Perm l
  | a :: l, 0, _ => .refl _
  | a :: l, i + 1, h => by
    show (l[i]'(by simpa using h) :: a :: l.eraseIdx i).Perm (a :: l)
    exact (List.Perm.swap a _ _).trans ((erase_perm l i (by simpa using h)).cons a)
theorem erase_map {α β : Type} (f : α → β) : ∀ (l : List α) (i : Nat), (l.map f).eraseIdx i = (l.eraseIdx i).map f
  | [], _ => rfl
  | a :: l, 0 => rfl
  | a :: l, i + 1 => by
    show f a :: (l.map f).eraseIdx i = f a :: (l.eraseIdx i).map f
    rw [erase_map f l i]
def mixI (X : List Str) (n : Nat) (ρ : Env') : Prop := ∃ (rest found : List Str), (found ++ rest).Perm X ∧ rest.length = n ∧ ρ = [some (.fr .src), some (.fr (.lst (X.map D.str))), some (.ow (.lst (rest.map D.str))), some (.ow (.lst (found.map D.str)))]
theorem mixed_ok {zs : List Str} (hl : zs.length < 1000000) (hz : ∀ z ∈ zs, PyData.canLay0 (.str z) = true) (h : ∀ ys : List Str, ys.Perm zs → kd (.lst (ys.map D.str))) : sm__law_mixed [.src, .lst (zs.map D.str)] kd kx := by
  have hs := sizeLine_eq
  unfold sm__law_mixed
  refine ⟨rfl, ?_⟩
  conv => whnf
  repeat ((with_reducible refine And.intro ?_ ?_); (focus (first | omega | rfl | exact True.intro | exact ⟨rfl, rfl⟩ | exact .inl rfl | exact of_decide_eq_true rfl | exact ⟨rfl, of_decide_eq_true rfl⟩ | decide | assumption | exact .inl ⟨of_decide_eq_true rfl, of_decide_eq_true rfl⟩ | exact .inr ⟨of_decide_eq_true rfl, of_decide_eq_true rfl⟩ | exact ⟨by omega, by omega⟩)); conv => whnf)
  refine ⟨_, whI (mixI zs) ?_ zs.length _ ⟨zs, [], .refl _, rfl, rfl⟩⟩
  rintro n ρ ⟨rest, found, hp, hn, rfl⟩ ih
  conv => whnf
  repeat ((with_reducible refine And.intro ?_ ?_); (focus (first | omega | rfl | exact True.intro | exact ⟨rfl, rfl⟩ | exact .inl rfl | exact of_decide_eq_true rfl | exact ⟨rfl, of_decide_eq_true rfl⟩ | decide | assumption | exact .inl ⟨of_decide_eq_true rfl, of_decide_eq_true rfl⟩ | exact .inr ⟨of_decide_eq_true rfl, of_decide_eq_true rfl⟩ | exact ⟨by omega, by omega⟩)); conv => whnf)
  refine ⟨_, _, toPy_strs rest, rfl, shape_strs fun z h => hz z (hp.mem_iff.mp (List.mem_append_right _ h)), rfl, ?_⟩
  cases rest with
  | nil =>
    conv => whnf
    repeat ((with_reducible refine And.intro ?_ ?_); (focus (first | omega | rfl | exact True.intro | exact ⟨rfl, rfl⟩ | exact .inl rfl | exact of_decide_eq_true rfl | exact ⟨rfl, of_decide_eq_true rfl⟩ | decide | assumption | exact .inl ⟨of_decide_eq_true rfl, of_decide_eq_true rfl⟩ | exact .inr ⟨of_decide_eq_true rfl, of_decide_eq_true rfl⟩ | exact ⟨by omega, by omega⟩)); conv => whnf)
    exact h found (by simpa using hp)
  | cons r rs =>
    have hlen : found.length + (rs.length + 1) = zs.length := by have := hp.length_eq; simpa using this
    have hlr : ((r :: rs).map D.str).length = rs.length + 1 := by simp
    conv => whnf
    repeat ((with_reducible refine And.intro ?_ ?_); (focus (first | omega | rfl | exact True.intro | exact ⟨rfl, rfl⟩ | exact .inl rfl | exact of_decide_eq_true rfl | exact ⟨rfl, of_decide_eq_true rfl⟩ | decide | assumption | exact .inl ⟨of_decide_eq_true rfl, of_decide_eq_true rfl⟩ | exact .inr ⟨of_decide_eq_true rfl, of_decide_eq_true rfl⟩ | exact ⟨by omega, by omega⟩)); conv => whnf)
    refine ⟨_, rfl, by rw [hlr]; omega, by rw [hlr]; omega, fun j j0 j1 => ?_⟩
    conv => whnf
    repeat ((with_reducible refine And.intro ?_ ?_); (focus (first | omega | rfl | exact True.intro | exact ⟨rfl, rfl⟩ | exact .inl rfl | exact of_decide_eq_true rfl | exact ⟨rfl, of_decide_eq_true rfl⟩ | decide | assumption | exact .inl ⟨of_decide_eq_true rfl, of_decide_eq_true rfl⟩ | exact .inr ⟨of_decide_eq_true rfl, of_decide_eq_true rfl⟩ | exact ⟨by omega, by omega⟩)); conv => whnf)
    rw [seqIx j0 j1]
    conv => whnf
    repeat ((with_reducible refine And.intro ?_ ?_); (focus (first | omega | rfl | exact True.intro | exact ⟨rfl, rfl⟩ | exact .inl rfl | exact of_decide_eq_true rfl | exact ⟨rfl, of_decide_eq_true rfl⟩ | decide | assumption | exact .inl ⟨of_decide_eq_true rfl, of_decide_eq_true rfl⟩ | exact .inr ⟨of_decide_eq_true rfl, of_decide_eq_true rfl⟩ | exact ⟨by omega, by omega⟩)); conv => whnf)
    have j2 : j.toNat < (r :: rs).length := by rw [hlr] at j1; simp; omega
    rw [List.getElem?_map, List.getElem?_eq_getElem j2]
    conv => whnf
    repeat ((with_reducible refine And.intro ?_ ?_); (focus (first | omega | rfl | exact True.intro | exact ⟨rfl, rfl⟩ | exact .inl rfl | exact of_decide_eq_true rfl | exact ⟨rfl, of_decide_eq_true rfl⟩ | decide | assumption | exact .inl ⟨of_decide_eq_true rfl, of_decide_eq_true rfl⟩ | exact .inr ⟨of_decide_eq_true rfl, of_decide_eq_true rfl⟩ | exact ⟨by omega, by omega⟩)); conv => whnf)
    have hlf : (found.map D.str).length < sizeLine := by rw [List.length_map]; omega
    conv => whnf
    repeat ((with_reducible refine And.intro ?_ ?_); (focus (first | omega | rfl | exact True.intro | exact ⟨rfl, rfl⟩ | exact .inl rfl | exact of_decide_eq_true rfl | exact ⟨rfl, of_decide_eq_true rfl⟩ | decide | assumption | exact .inl ⟨of_decide_eq_true rfl, of_decide_eq_true rfl⟩ | exact .inr ⟨of_decide_eq_true rfl, of_decide_eq_true rfl⟩ | exact ⟨by omega, by omega⟩)); conv => whnf)
    have he : ((r :: rs).eraseIdx j.toNat).length = rs.length := by rw [List.length_eraseIdx_of_lt j2]; rfl
    simp only [List.length_cons] at hn
    subst hn
    refine ih rs.length rfl _ ⟨(r :: rs).eraseIdx j.toNat, found ++ [(r :: rs)[j.toNat]], ?_, he, ?_⟩
    · refine List.Perm.trans ?_ hp
      rw [List.append_assoc]
      refine List.Perm.append_left _ ?_
      exact erase_perm _ _ j2
    · rw [List.map_append, erase_map]
      rfl
/-- the names that marks have -/
def marksL : List Str := ["none", "run", "old", "a", "send", "told", "lead", "join", "mark", "zzzz", "b", "text", "part", "keep"]
theorem marks_ok {m : Int} (h0 : 0 ≤ m) (h1 : m ≤ 14) (h : ∀ ms : List Str, ms.length = m.toNat → ms.Nodup → (∀ z ∈ ms, z ∈ marksL) → kd (.lst (ms.map D.str))) : sm__law_marks [.src, .int m] kd kx := by
  unfold sm__law_marks
  refine ⟨rfl, ?_⟩
  conv => whnf
  repeat ((with_reducible refine And.intro ?_ ?_); (focus (first | omega | rfl | exact True.intro | exact ⟨rfl, rfl⟩ | exact .inl rfl | exact of_decide_eq_true rfl | exact ⟨rfl, of_decide_eq_true rfl⟩ | decide | assumption | exact .inl ⟨of_decide_eq_true rfl, of_decide_eq_true rfl⟩ | exact .inr ⟨of_decide_eq_true rfl, of_decide_eq_true rfl⟩ | exact ⟨by omega, by omega⟩)); conv => whnf)
  refine mixed_ok (zs := marksL) (by decide) (by decide +kernel) fun ys hp => ?_
  conv => whnf
  repeat ((with_reducible refine And.intro ?_ ?_); (focus (first | omega | rfl | exact True.intro | exact ⟨rfl, rfl⟩ | exact .inl rfl | exact of_decide_eq_true rfl | exact ⟨rfl, of_decide_eq_true rfl⟩ | decide | assumption | exact .inl ⟨of_decide_eq_true rfl, of_decide_eq_true rfl⟩ | exact .inr ⟨of_decide_eq_true rfl, of_decide_eq_true rfl⟩ | exact ⟨by omega, by omega⟩)); conv => whnf)
  rw [cut_take h0, ← List.map_take]
  refine h _ ?_ ?_ fun z hz => hp.mem_iff.mp (List.mem_of_mem_take hz)
  · rw [List.length_take, hp.length_eq]
    show min m.toNat 14 = m.toNat
    omega
  · refine (List.take_sublist _ _).nodup ?_
    exact hp.nodup_iff.mpr (by decide +kernel)
/-- a test: whether it is one with not, its part -/
abbrev Te := Bool × Str
def teS (t : Te) : Str := if t.1 = true then ("not " : Str) ++ t.2 else t.2
def partsL : List Str := ["above", "own", "below"]
structure TsOk (ts : List Te) : Prop where
  mem : ∀ t ∈ ts, t.2 ∈ partsL
  nd : (ts.map (·.2)).Nodup
def teI (l : List D) (ρ : Env') (acc : List D) : Prop := ρ = [some (.fr .src), none, none] ∧ ∃ (rest : List Str) (ts : List Te), l = rest.map D.str ∧ acc = (ts.map teS).map D.str ∧ (ts.map (·.2) ++ rest).Perm partsL
theorem tests_ok (h : ∀ ts : List Te, TsOk ts → kd (.lst ((ts.map teS).map D.str))) : sm__law_tests [.src] kd kx := by
  have hs := sizeLine_eq
  unfold sm__law_tests
  refine ⟨rfl, ?_⟩
  conv => whnf
  repeat ((with_reducible refine And.intro ?_ ?_); (focus (first | omega | rfl | exact True.intro | exact ⟨rfl, rfl⟩ | exact .inl rfl | exact of_decide_eq_true rfl | exact ⟨rfl, of_decide_eq_true rfl⟩ | decide | assumption | exact .inl ⟨of_decide_eq_true rfl, of_decide_eq_true rfl⟩ | exact .inr ⟨of_decide_eq_true rfl, of_decide_eq_true rfl⟩ | exact ⟨by omega, by omega⟩)); conv => whnf)
  refine mixed_ok (zs := partsL) (by decide) (by decide +kernel) fun ys hp => ?_
  conv => whnf
  repeat ((with_reducible refine And.intro ?_ ?_); (focus (first | omega | rfl | exact True.intro | exact ⟨rfl, rfl⟩ | exact .inl rfl | exact of_decide_eq_true rfl | exact ⟨rfl, of_decide_eq_true rfl⟩ | decide | assumption | exact .inl ⟨of_decide_eq_true rfl, of_decide_eq_true rfl⟩ | exact .inr ⟨of_decide_eq_true rfl, of_decide_eq_true rfl⟩ | exact ⟨by omega, by omega⟩)); conv => whnf)
  refine compI teI ⟨rfl, ys, [], rfl, rfl, by simpa using hp⟩ ?_ ?_
  · rintro d l ρ acc ⟨rfl, rest, ts, e, rfl, hp⟩ ih
    cases rest with
    | nil => cases e
    | cons r rest =>
      cases e
      have hr : r ∈ partsL := hp.mem_iff.mp (by simp)
      have hr2 : r.length ≤ 5 := by
        have := (by decide +kernel : ∀ r ∈ partsL, Str.length r ≤ 5)
        exact this r hr
      have hl : ts.length + (rest.length + 1) = 3 := by have := hp.length_eq; rw [show partsL.length = 3 from rfl] at this; simpa using this
      have hla : ((ts.map teS).map D.str).length < sizeLine := by simp; omega
      conv => whnf
      repeat ((with_reducible refine And.intro ?_ ?_); (focus (first | omega | rfl | exact True.intro | exact ⟨rfl, rfl⟩ | exact .inl rfl | exact of_decide_eq_true rfl | exact ⟨rfl, of_decide_eq_true rfl⟩ | decide | assumption | exact .inl ⟨of_decide_eq_true rfl, of_decide_eq_true rfl⟩ | exact .inr ⟨of_decide_eq_true rfl, of_decide_eq_true rfl⟩ | exact ⟨by omega, by omega⟩)); conv => whnf)
      refine pick_ok (by simp) (by decide) fun d hd => ?_
      have hd : d ∈ [D.str "", D.str "", D.str "not "] := hd
      have key : ∃ t : Te, t.2 = r ∧ d = .str (if t.1 = true then ("not " : Str) else "") := by
        simp only [List.mem_cons, List.not_mem_nil, or_false] at hd
        rcases hd with rfl | rfl | rfl
        · exact ⟨(false, r), rfl, rfl⟩
        · exact ⟨(false, r), rfl, rfl⟩
        · exact ⟨(true, r), rfl, rfl⟩
      obtain ⟨t, rfl, rfl⟩ := key
      have hb : (if t.1 = true then ("not " : Str) else "").length ≤ 4 := by
        cases t.1 <;> decide +kernel
      have hb2 : (if t.1 = true then ("not " : Str) else "").length + t.2.length ≤ sizeLine := by omega
      conv => whnf
      repeat ((with_reducible refine And.intro ?_ ?_); (focus (first | omega | rfl | exact True.intro | exact ⟨rfl, rfl⟩ | exact .inl rfl | exact of_decide_eq_true rfl | exact ⟨rfl, of_decide_eq_true rfl⟩ | decide | assumption | exact .inl ⟨of_decide_eq_true rfl, of_decide_eq_true rfl⟩ | exact .inr ⟨of_decide_eq_true rfl, of_decide_eq_true rfl⟩ | exact ⟨by omega, by omega⟩)); conv => whnf)
      have e2 : (if t.1 = true then ("not " : Str) else "") ++ t.2 = teS t := by
        unfold teS
        cases t.1
        · exact empty_app _
        · rfl
      rw [e2]
      refine ih _ _ ⟨rfl, rest, ts ++ [t], rfl, by simp, ?_⟩
      rw [List.map_append]
      simpa using hp
  · rintro ρ acc ⟨rfl, rest, ts, e, rfl, hp⟩
    cases rest with
    | cons _ _ => cases e
    | nil =>
      conv => whnf
      repeat ((with_reducible refine And.intro ?_ ?_); (focus (first | omega | rfl | exact True.intro | exact ⟨rfl, rfl⟩ | exact .inl rfl | exact of_decide_eq_true rfl | exact ⟨rfl, of_decide_eq_true rfl⟩ | decide | assumption | exact .inl ⟨of_decide_eq_true rfl, of_decide_eq_true rfl⟩ | exact .inr ⟨of_decide_eq_true rfl, of_decide_eq_true rfl⟩ | exact ⟨by omega, by omega⟩)); conv => whnf)
      refine ⟨4, rfl, by decide, by decide, fun j j0 j1 => ?_⟩
      conv => whnf
      repeat ((with_reducible refine And.intro ?_ ?_); (focus (first | omega | rfl | exact True.intro | exact ⟨rfl, rfl⟩ | exact .inl rfl | exact of_decide_eq_true rfl | exact ⟨rfl, of_decide_eq_true rfl⟩ | decide | assumption | exact .inl ⟨of_decide_eq_true rfl, of_decide_eq_true rfl⟩ | exact .inr ⟨of_decide_eq_true rfl, of_decide_eq_true rfl⟩ | exact ⟨by omega, by omega⟩)); conv => whnf)
      rw [cut_take j0, ← List.map_take, ← List.map_take]
      have hp : (ts.map (·.2)).Perm partsL := by simpa using hp
      refine h _ ⟨fun t ht => hp.mem_iff.mp (List.mem_map.mpr ⟨t, List.mem_of_mem_take ht, rfl⟩), ?_⟩
      rw [List.map_take]
      exact (List.take_sublist _ _).nodup (hp.nodup_iff.mpr (by decide +kernel))
end
end Lw

set_option Elab.async false
set_option linter.all false
set_option maxRecDepth 100000
set_option maxHeartbeats 0
set_option pp.maxSteps 300
namespace Lw
open PySem PySem.Spec PyProof.Rows L2 DL
def smallL : Str := "abcdefghijklmnopqrstuvwxyz"
def barL : List Str := ["and", "any", "came", "here", "not", "own", "to"]
def oneS (z : D) : Bool := match z with
  | .str x => !(Builtin.Str.occurrences smallL x 0 smallL.length 1).isEmpty
  | _ => false
def chars (z : Str) : List D := z.cps.toList.map fun c => .str ⟨#[c]⟩
def inBar (z : Str) : Bool := (barL.map D.str).any fun y => eqD y (.str z)
def nameB (z : Str) : Bool := decide (1 ≤ (z.length : Int)) && (decide ((z.length : Int) ≤ 4) && (!inBar z && (chars z).all oneS))
theorem chars_len (z : Str) : (chars z).length = z.length := by
  show (z.cps.toList.map _).length = z.cps.size
  rw [List.length_map, Array.length_toList]
theorem bools_map {f : D → Bool} : ∀ l : List D, bools (l.map fun d => .bl (f d)) = some (l.map f)
  | [] => rfl
  | d :: l => by
    show (bools (l.map fun d => D.bl (f d))).map (f d :: ·) = _
    rw [bools_map l]; rfl
/-- signs that are no small letters -/
def badC (z : Str) : List Nat := z.cps.toList.filter fun c => !oneS (.str ⟨#[c]⟩)
theorem badC_eq (z : Str) : (chars z).filterMap (fun d => if oneS d = true then none else some d) = (badC z).map fun c => D.str ⟨#[c]⟩ := by
  unfold chars badC
  induction z.cps.toList with
  | nil => rfl
  | cons c l ih =>
    rw [List.map_cons, List.filterMap_cons, List.filter_cons]
    by_cases h : oneS (.str ⟨#[c]⟩) = true
    · rw [if_pos h, h]
      exact ih
    · rw [if_neg h]
      have h' : oneS (.str ⟨#[c]⟩) = false := by simpa using h
      rw [h']
      show _ :: _ = _ :: _
      rw [ih]
theorem badC_all (z : Str) : (chars z).all oneS = (badC z).isEmpty := by
  unfold chars badC
  induction z.cps.toList with
  | nil => rfl
  | cons c l ih =>
    rw [List.map_cons, List.all_cons, List.filter_cons]
    cases h : oneS (.str ⟨#[c]⟩) with
    | true => rw [Bool.true_and]; exact ih
    | false => rfl
theorem badC_lay {z : Str} (h : PyData.canLay0 (.str z) = true) : ∀ c ∈ badC z, PyData.canLay0 (.str ⟨#[c]⟩) = true ∧ (PyData.str ⟨#[c]⟩).depth ≤ 60 := fun c hc => by
  have hc : c ∈ z.cps.toList := (List.mem_filter.mp hc).1
  have h : z.cps.all (· < 0x110000) = true := h
  rw [← Array.all_toList, List.all_eq_true] at h
  have := h c hc
  refine ⟨?_, by show 0 ≤ 60; decide⟩
  show (#[c] : Array Nat).all (· < 0x110000) = true
  simpa using this
section
variable {kd : D → Prop} {kx : DX → Prop}
theorem is_name_g {z : Str} (hz : z.length ≤ 100) (h : kd (.bl (nameB z))) : sm_is_name [.str z] kd kx := by
  have hs := sizeLine_eq
  unfold nameB at h
  unfold sm_is_name
  refine ⟨rfl, ?_⟩
  conv => whnf
  repeat ((with_reducible refine And.intro ?_ ?_); (focus (first | omega | rfl | exact True.intro | exact ⟨rfl, rfl⟩ | exact .inl rfl | exact of_decide_eq_true rfl | exact ⟨rfl, of_decide_eq_true rfl⟩ | decide | assumption | exact .inl ⟨of_decide_eq_true rfl, of_decide_eq_true rfl⟩ | exact .inr ⟨of_decide_eq_true rfl, of_decide_eq_true rfl⟩ | exact ⟨by omega, by omega⟩)); conv => whnf)
  refine ite_d (fun h1 => ?_) (fun h1 => ?_)
  · rw [h1] at h
    conv => whnf
    repeat ((with_reducible refine And.intro ?_ ?_); (focus (first | omega | rfl | exact True.intro | exact ⟨rfl, rfl⟩ | exact .inl rfl | exact of_decide_eq_true rfl | exact ⟨rfl, of_decide_eq_true rfl⟩ | decide | assumption | exact .inl ⟨of_decide_eq_true rfl, of_decide_eq_true rfl⟩ | exact .inr ⟨of_decide_eq_true rfl, of_decide_eq_true rfl⟩ | exact ⟨by omega, by omega⟩)); conv => whnf)
    refine ite_d (fun h2 => ?_) (fun h2 => ?_)
    · rw [show decide ((z.length : Int) ≤ 4) = false by simpa using h2] at h
      conv => whnf
      repeat ((with_reducible refine And.intro ?_ ?_); (focus (first | omega | rfl | exact True.intro | exact ⟨rfl, rfl⟩ | exact .inl rfl | exact of_decide_eq_true rfl | exact ⟨rfl, of_decide_eq_true rfl⟩ | decide | assumption | exact .inl ⟨of_decide_eq_true rfl, of_decide_eq_true rfl⟩ | exact .inr ⟨of_decide_eq_true rfl, of_decide_eq_true rfl⟩ | exact ⟨by omega, by omega⟩)); conv => whnf)
      exact h
    · rw [show decide ((z.length : Int) ≤ 4) = true by simpa using h2] at h
      conv => whnf
      repeat ((with_reducible refine And.intro ?_ ?_); (focus (first | omega | rfl | exact True.intro | exact ⟨rfl, rfl⟩ | exact .inl rfl | exact of_decide_eq_true rfl | exact ⟨rfl, of_decide_eq_true rfl⟩ | decide | assumption | exact .inl ⟨of_decide_eq_true rfl, of_decide_eq_true rfl⟩ | exact .inr ⟨of_decide_eq_true rfl, of_decide_eq_true rfl⟩ | exact ⟨by omega, by omega⟩)); conv => whnf)
      refine ite_d (fun h3 => ?_) (fun h3 => ?_)
      · rw [show inBar z = true from h3] at h
        conv => whnf
        repeat ((with_reducible refine And.intro ?_ ?_); (focus (first | omega | rfl | exact True.intro | exact ⟨rfl, rfl⟩ | exact .inl rfl | exact of_decide_eq_true rfl | exact ⟨rfl, of_decide_eq_true rfl⟩ | decide | assumption | exact .inl ⟨of_decide_eq_true rfl, of_decide_eq_true rfl⟩ | exact .inr ⟨of_decide_eq_true rfl, of_decide_eq_true rfl⟩ | exact ⟨by omega, by omega⟩)); conv => whnf)
        exact h
      · rw [show inBar z = false by simpa using (show ¬ inBar z = true from h3)] at h
        conv => whnf
        repeat ((with_reducible refine And.intro ?_ ?_); (focus (first | omega | rfl | exact True.intro | exact ⟨rfl, rfl⟩ | exact .inl rfl | exact of_decide_eq_true rfl | exact ⟨rfl, of_decide_eq_true rfl⟩ | decide | assumption | exact .inl ⟨of_decide_eq_true rfl, of_decide_eq_true rfl⟩ | exact .inr ⟨of_decide_eq_true rfl, of_decide_eq_true rfl⟩ | exact ⟨by omega, by omega⟩)); conv => whnf)
        refine compM (l := chars z) (fun d => .bl (oneS d)) (by rw [chars_len]; omega) (fun d k' hd hk => ?_) ?_
        · obtain ⟨c, _, rfl⟩ := List.mem_map.mp hd
          conv => whnf
          repeat ((with_reducible refine And.intro ?_ ?_); (focus (first | omega | rfl | exact True.intro | exact ⟨rfl, rfl⟩ | exact .inl rfl | exact of_decide_eq_true rfl | exact ⟨rfl, of_decide_eq_true rfl⟩ | decide | assumption | exact .inl ⟨of_decide_eq_true rfl, of_decide_eq_true rfl⟩ | exact .inr ⟨of_decide_eq_true rfl, of_decide_eq_true rfl⟩ | exact ⟨by omega, by omega⟩)); conv => whnf)
          exact hk
        · conv => whnf
          repeat ((with_reducible refine And.intro ?_ ?_); (focus (first | omega | rfl | exact True.intro | exact ⟨rfl, rfl⟩ | exact .inl rfl | exact of_decide_eq_true rfl | exact ⟨rfl, of_decide_eq_true rfl⟩ | decide | assumption | exact .inl ⟨of_decide_eq_true rfl, of_decide_eq_true rfl⟩ | exact .inr ⟨of_decide_eq_true rfl, of_decide_eq_true rfl⟩ | exact ⟨by omega, by omega⟩)); conv => whnf)
          rw [bools_map]
          conv => whnf
          repeat ((with_reducible refine And.intro ?_ ?_); (focus (first | omega | rfl | exact True.intro | exact ⟨rfl, rfl⟩ | exact .inl rfl | exact of_decide_eq_true rfl | exact ⟨rfl, of_decide_eq_true rfl⟩ | decide | assumption | exact .inl ⟨of_decide_eq_true rfl, of_decide_eq_true rfl⟩ | exact .inr ⟨of_decide_eq_true rfl, of_decide_eq_true rfl⟩ | exact ⟨by omega, by omega⟩)); conv => whnf)
          exact kd_bl (by simp [List.all_map]) h
  · rw [show decide (1 ≤ (z.length : Int)) = false by simpa using h1] at h
    conv => whnf
    repeat ((with_reducible refine And.intro ?_ ?_); (focus (first | omega | rfl | exact True.intro | exact ⟨rfl, rfl⟩ | exact .inl rfl | exact of_decide_eq_true rfl | exact ⟨rfl, of_decide_eq_true rfl⟩ | decide | assumption | exact .inl ⟨of_decide_eq_true rfl, of_decide_eq_true rfl⟩ | exact .inr ⟨of_decide_eq_true rfl, of_decide_eq_true rfl⟩ | exact ⟨by omega, by omega⟩)); conv => whnf)
    exact h
theorem is_name_no {d : D} (hd : (match d with | .non | .bl _ | .int _ | .lst _ | .tup _ => true | _ => false) = true) (h : kd (.bl false)) : sm_is_name [d] kd kx := by
  unfold sm_is_name
  refine ⟨rfl, ?_⟩
  cases d <;> first
    | cases hd; done
    | skip
  all_goals
    conv => whnf
    repeat ((with_reducible refine And.intro ?_ ?_); (focus (first | omega | rfl | exact True.intro | exact ⟨rfl, rfl⟩ | exact .inl rfl | exact of_decide_eq_true rfl | exact ⟨rfl, of_decide_eq_true rfl⟩ | decide | assumption | exact .inl ⟨of_decide_eq_true rfl, of_decide_eq_true rfl⟩ | exact .inr ⟨of_decide_eq_true rfl, of_decide_eq_true rfl⟩ | exact ⟨by omega, by omega⟩)); conv => whnf)
    exact h
/-- values without objects, at the top -/
def topD : D → Bool
  | .non | .bl _ | .int _ | .lst _ | .tup _ => true
  | .str z => decide (z.length ≤ 100) && PyData.canLay0 (.str z)
  | _ => false
def nmB : D → Bool
  | .str z => nameB z
  | _ => false
def intB : D → Bool
  | .int _ => true
  | _ => false
theorem is_name_t {d : D} (hd : topD d = true) (h : kd (.bl (nmB d))) : sm_is_name [d] kd kx := by
  cases d with
  | str z => exact is_name_g (of_decide_eq_true (Bool.and_eq_true_iff.mp hd).1) h
  | non => exact is_name_no rfl h
  | bl _ => exact is_name_no rfl h
  | int _ => exact is_name_no rfl h
  | lst _ => exact is_name_no rfl h
  | tup _ => exact is_name_no rfl h
  | _ => cases hd
end
end Lw

set_option Elab.async false
set_option linter.all false
set_option maxRecDepth 100000
set_option maxHeartbeats 0
set_option pp.maxSteps 300
namespace Lw
open PySem PySem.Spec PyProof.Rows L2 DL
/-! words and numbers in texts -/
/-- words: short, of signs that there are, without blanks and colons? -/
structure Wok (w : Str) : Prop where
  len : w.length ≤ 20
  lay : PyData.canLay0 (.str w) = true
  nb : (32 : Nat) ∉ TL.tl w
theorem sp_tl : TL.tl ((" " : String) : Str) = [32] := rfl
theorem co_tl : TL.tl ((":" : String) : Str) = [58] := rfl
theorem split_blank {ws : List Str} (hn : ws ≠ []) (h : ∀ w ∈ ws, Wok w) : Txt.split (Txt.join " " ws) " " = ws :=
  TL.split_join (s := 32) (S := []) sp_tl (by decide +kernel) hn fun p hp => (h p hp).nb
theorem spl_one {s : Nat} : ∀ (l acc : List Nat), ∃ p r, TL.spl [s] 0 acc l = p :: r ∧ (∀ q ∈ p :: r, q.length ≤ acc.length + l.length ∧ ∀ c ∈ q, c ∈ acc ∨ c ∈ l) ∧ (p :: r).length ≤ l.length + 1
  | [], acc => ⟨acc, [], TL.spl_nil _ _ _, fun q hq => by
      rw [List.mem_singleton.mp hq]
      exact ⟨by simp, fun c hc => .inl hc⟩, by simp⟩
  | c :: l, acc => by
    by_cases h : TL.pre [s] (c :: l) = true
    · obtain ⟨p, r, e, h1, h2⟩ := spl_one (s := s) l []
      refine ⟨acc, p :: r, by rw [TL.spl_hit h]; show acc :: TL.spl [s] 0 [] l = _; rw [e], fun q hq => ?_, by simp at h2 ⊢; omega⟩
      rcases List.mem_cons.mp hq with rfl | hq
      · exact ⟨by simp, fun c hc => .inl hc⟩
      · obtain ⟨g1, g2⟩ := h1 q hq
        refine ⟨by simp at g1 ⊢; omega, fun d hd => ?_⟩
        rcases g2 d hd with z | z
        · cases z
        · exact .inr (List.mem_cons_of_mem _ z)
    · obtain ⟨p, r, e, h1, h2⟩ := spl_one (s := s) l (acc ++ [c])
      refine ⟨p, r, by rw [TL.spl_miss (by simpa using h)]; exact e, fun q hq => ?_, by simp at h2 ⊢; omega⟩
      obtain ⟨g1, g2⟩ := h1 q hq
      refine ⟨by simp at g1 ⊢; omega, fun d hd => ?_⟩
      rcases g2 d hd with z | z
      · rcases List.mem_append.mp z with z | z
        · exact .inl z
        · rw [List.mem_singleton.mp z]; exact .inr (List.mem_cons_self ..)
      · exact .inr (List.mem_cons_of_mem _ z)
/-- a word cut at its colons -/
theorem split_colon (w : Str) : ∃ c r, Txt.split w ":" = c :: r ∧ (∀ q ∈ c :: r, q.length ≤ w.length ∧ ∀ x ∈ TL.tl q, x ∈ TL.tl w) ∧ (c :: r).length ≤ w.length + 1 := by
  have e := TL.split_spl w ":" (by rw [co_tl]; simp) (TL.kind_ok (by decide +kernel))
  rw [co_tl] at e
  obtain ⟨p, q, e2, h1, h2⟩ := spl_one (s := 58) (TL.tl w) []
  rw [e2] at e
  cases hs : Txt.split w ":" with
  | nil => rw [hs] at e; cases e
  | cons c r =>
    rw [hs] at e
    refine ⟨c, r, rfl, fun z hz => ?_, ?_⟩
    · have hm : TL.tl z ∈ p :: q := by rw [← e]; exact List.mem_map.mpr ⟨z, hz, rfl⟩
      obtain ⟨g1, g2⟩ := h1 _ hm
      refine ⟨by rw [TL.len_tl, TL.len_tl]; simpa using g1, fun x hx => ?_⟩
      rcases g2 x hx with y | y
      · cases y
      · exact y
    · have := congrArg List.length e
      rw [List.length_map] at this
      rw [this, TL.len_tl]; exact h2
theorem lay_sub {w q : Str} (h : PyData.canLay0 (.str w) = true) (hs : ∀ x ∈ TL.tl q, x ∈ TL.tl w) : PyData.canLay0 (.str q) = true := by
  have h : w.cps.all (· < 0x110000) = true := h
  show q.cps.all (· < 0x110000) = true
  rw [← Array.all_toList, List.all_eq_true] at h ⊢
  exact fun x hx => h x (hs x hx)
end Lw

set_option Elab.async false
set_option linter.all false
set_option maxRecDepth 100000
set_option maxHeartbeats 0
set_option pp.maxSteps 400
namespace Lw
open PySem PySem.Spec PyProof.Rows L2 DL
section
variable {kd : D → Prop} {kx : DX → Prop}
def strB : D → Bool
  | .str _ => true
  | _ => false
/-- one of some words -/
def wordB (ws : List Str) : D → Bool
  | .str z => (ws.map D.str).any fun y => eqD y (.str z)
  | _ => false
theorem wordB_str (ws : List Str) (z : Str) : wordB ws (.str z) = decide (z ∈ ws) := by
  show ((ws.map D.str).any fun y => eqD y (.str z)) = _
  induction ws with
  | nil => rfl
  | cons w ws ih =>
    rw [List.map_cons, List.any_cons, ih]
    show ((w == z) || _) = _
    by_cases h : w = z
    · subst h; simp
    · have h' : ¬ z = w := fun e => h e.symm
      simp [h, h']
theorem flat_strs (ws : List Str) : (ws.map D.str).all flatD = true := by
  rw [List.all_eq_true]
  intro d hd
  obtain ⟨z, _, rfl⟩ := List.mem_map.mp hd
  rfl
theorem is_word_t {d : D} {ws : List Str} (hd : topD d = true) (h : kd (.bl (wordB ws d))) : sm_is_word [d, .tup (ws.map D.str)] kd kx := by
  unfold sm_is_word
  refine ⟨rfl, ?_⟩
  cases d with
  | str z =>
    have hf := flat_strs ws
    conv => whnf
    repeat ((with_reducible refine And.intro ?_ ?_); (focus (first | omega | rfl | exact True.intro | exact ⟨rfl, rfl⟩ | exact .inl rfl | exact of_decide_eq_true rfl | exact ⟨rfl, of_decide_eq_true rfl⟩ | decide | assumption | exact .inl ⟨of_decide_eq_true rfl, of_decide_eq_true rfl⟩ | exact .inr ⟨of_decide_eq_true rfl, of_decide_eq_true rfl⟩ | exact ⟨by omega, by omega⟩)); conv => whnf)
    exact h
  | non =>
    conv => whnf
    repeat ((with_reducible refine And.intro ?_ ?_); (focus (first | omega | rfl | exact True.intro | exact ⟨rfl, rfl⟩ | exact .inl rfl | exact of_decide_eq_true rfl | exact ⟨rfl, of_decide_eq_true rfl⟩ | decide | assumption | exact .inl ⟨of_decide_eq_true rfl, of_decide_eq_true rfl⟩ | exact .inr ⟨of_decide_eq_true rfl, of_decide_eq_true rfl⟩ | exact ⟨by omega, by omega⟩)); conv => whnf)
    exact h
  | bl _ =>
    conv => whnf
    repeat ((with_reducible refine And.intro ?_ ?_); (focus (first | omega | rfl | exact True.intro | exact ⟨rfl, rfl⟩ | exact .inl rfl | exact of_decide_eq_true rfl | exact ⟨rfl, of_decide_eq_true rfl⟩ | decide | assumption | exact .inl ⟨of_decide_eq_true rfl, of_decide_eq_true rfl⟩ | exact .inr ⟨of_decide_eq_true rfl, of_decide_eq_true rfl⟩ | exact ⟨by omega, by omega⟩)); conv => whnf)
    exact h
  | int _ =>
    conv => whnf
    repeat ((with_reducible refine And.intro ?_ ?_); (focus (first | omega | rfl | exact True.intro | exact ⟨rfl, rfl⟩ | exact .inl rfl | exact of_decide_eq_true rfl | exact ⟨rfl, of_decide_eq_true rfl⟩ | decide | assumption | exact .inl ⟨of_decide_eq_true rfl, of_decide_eq_true rfl⟩ | exact .inr ⟨of_decide_eq_true rfl, of_decide_eq_true rfl⟩ | exact ⟨by omega, by omega⟩)); conv => whnf)
    exact h
  | lst _ =>
    conv => whnf
    repeat ((with_reducible refine And.intro ?_ ?_); (focus (first | omega | rfl | exact True.intro | exact ⟨rfl, rfl⟩ | exact .inl rfl | exact of_decide_eq_true rfl | exact ⟨rfl, of_decide_eq_true rfl⟩ | decide | assumption | exact .inl ⟨of_decide_eq_true rfl, of_decide_eq_true rfl⟩ | exact .inr ⟨of_decide_eq_true rfl, of_decide_eq_true rfl⟩ | exact ⟨by omega, by omega⟩)); conv => whnf)
    exact h
  | tup _ =>
    conv => whnf
    repeat ((with_reducible refine And.intro ?_ ?_); (focus (first | omega | rfl | exact True.intro | exact ⟨rfl, rfl⟩ | exact .inl rfl | exact of_decide_eq_true rfl | exact ⟨rfl, of_decide_eq_true rfl⟩ | decide | assumption | exact .inl ⟨of_decide_eq_true rfl, of_decide_eq_true rfl⟩ | exact .inr ⟨of_decide_eq_true rfl, of_decide_eq_true rfl⟩ | exact ⟨by omega, by omega⟩)); conv => whnf)
    exact h
  | _ => cases hd
/-- a name, or any -/
def oldB (d : D) : Bool := nmB d || wordB ["any"] d
theorem is_old_t {d : D} (hd : topD d = true) (h : kd (.bl (oldB d))) : sm_is_old_mark [d] kd kx := by
  unfold sm_is_old_mark
  refine ⟨rfl, ?_⟩
  conv => whnf
  repeat ((with_reducible refine And.intro ?_ ?_); (focus (first | omega | rfl | exact True.intro | exact ⟨rfl, rfl⟩ | exact .inl rfl | exact of_decide_eq_true rfl | exact ⟨rfl, of_decide_eq_true rfl⟩ | decide | assumption | exact .inl ⟨of_decide_eq_true rfl, of_decide_eq_true rfl⟩ | exact .inr ⟨of_decide_eq_true rfl, of_decide_eq_true rfl⟩ | exact ⟨by omega, by omega⟩)); conv => whnf)
  refine is_name_t hd ?_
  unfold oldB at h
  cases hn : nmB d with
  | true =>
    rw [hn] at h
    conv => whnf
    repeat ((with_reducible refine And.intro ?_ ?_); (focus (first | omega | rfl | exact True.intro | exact ⟨rfl, rfl⟩ | exact .inl rfl | exact of_decide_eq_true rfl | exact ⟨rfl, of_decide_eq_true rfl⟩ | decide | assumption | exact .inl ⟨of_decide_eq_true rfl, of_decide_eq_true rfl⟩ | exact .inr ⟨of_decide_eq_true rfl, of_decide_eq_true rfl⟩ | exact ⟨by omega, by omega⟩)); conv => whnf)
    exact h
  | false =>
    rw [hn] at h
    conv => whnf
    repeat ((with_reducible refine And.intro ?_ ?_); (focus (first | omega | rfl | exact True.intro | exact ⟨rfl, rfl⟩ | exact .inl rfl | exact of_decide_eq_true rfl | exact ⟨rfl, of_decide_eq_true rfl⟩ | decide | assumption | exact .inl ⟨of_decide_eq_true rfl, of_decide_eq_true rfl⟩ | exact .inr ⟨of_decide_eq_true rfl, of_decide_eq_true rfl⟩ | exact ⟨by omega, by omega⟩)); conv => whnf)
    refine is_word_t (ws := ["any"]) hd ?_
    exact h
def partS (z : Str) : Str := Txt.removeprefix z "not "
theorem part_of_t {z : Str} (hz : z.length ≤ 1000) (h : kd (.str (partS z))) : sm_part_of [.str z] kd kx := by
  have hs := sizeLine_eq
  unfold sm_part_of
  refine ⟨rfl, ?_⟩
  conv => whnf
  repeat ((with_reducible refine And.intro ?_ ?_); (focus (first | omega | rfl | exact True.intro | exact ⟨rfl, rfl⟩ | exact .inl rfl | exact of_decide_eq_true rfl | exact ⟨rfl, of_decide_eq_true rfl⟩ | decide | assumption | exact .inl ⟨of_decide_eq_true rfl, of_decide_eq_true rfl⟩ | exact .inr ⟨of_decide_eq_true rfl, of_decide_eq_true rfl⟩ | exact ⟨by omega, by omega⟩)); conv => whnf)
  exact h
theorem unlike_t {zs : List Str} (hl : zs.length < 1000000) (h : kd (.bl (decide zs.Nodup))) : sm_are_unlike [.lst (zs.map D.str)] kd kx := by
  have hs := sizeLine_eq
  unfold sm_are_unlike
  refine ⟨rfl, ?_⟩
  conv => whnf
  repeat ((with_reducible refine And.intro ?_ ?_); (focus (first | omega | rfl | exact True.intro | exact ⟨rfl, rfl⟩ | exact .inl rfl | exact of_decide_eq_true rfl | exact ⟨rfl, of_decide_eq_true rfl⟩ | decide | assumption | exact .inl ⟨of_decide_eq_true rfl, of_decide_eq_true rfl⟩ | exact .inr ⟨of_decide_eq_true rfl, of_decide_eq_true rfl⟩ | exact ⟨by omega, by omega⟩)); conv => whnf)
  refine compDI (fun l ρ ks acc => ρ = [some (.fr (.lst (zs.map D.str))), none] ∧ ∃ done rest : List Str, zs = done ++ rest ∧ l = rest.map D.str ∧ Keyed done ks ∧ ks.length = acc.length) ⟨rfl, [], zs, rfl, rfl, .nil, rfl⟩ ?_ ?_
  · rintro d l ρ ks acc ⟨rfl, done, rest, ez, e, hk, hla⟩ ih
    cases rest with
    | nil => cases e
    | cons r rest =>
      cases e
      have hlz : zs.length = done.length + (rest.length + 1) := by rw [ez]; simp
      have hks : ks.length < sizeLine := by have := hk.le; omega
      conv => whnf
      repeat ((with_reducible refine And.intro ?_ ?_); (focus (first | omega | rfl | exact True.intro | exact ⟨rfl, rfl⟩ | exact .inl rfl | exact of_decide_eq_true rfl | exact ⟨rfl, of_decide_eq_true rfl⟩ | decide | assumption | exact .inl ⟨of_decide_eq_true rfl, of_decide_eq_true rfl⟩ | exact .inr ⟨of_decide_eq_true rfl, of_decide_eq_true rfl⟩ | exact ⟨by omega, by omega⟩)); conv => whnf)
      obtain ⟨q1, q2⟩ := hk.put hla r (.bl true)
      exact ih _ _ _ ⟨rfl, done ++ [r], rest, by rw [ez]; simp, rfl, q1, q2⟩
  · rintro ρ ks acc ⟨rfl, done, rest, ez, e, hk, hla⟩
    cases rest with
    | cons _ _ => cases e
    | nil =>
      rw [List.append_nil] at ez
      subst ez
      conv => whnf
      repeat ((with_reducible refine And.intro ?_ ?_); (focus (first | omega | rfl | exact True.intro | exact ⟨rfl, rfl⟩ | exact .inl rfl | exact of_decide_eq_true rfl | exact ⟨rfl, of_decide_eq_true rfl⟩ | decide | assumption | exact .inl ⟨of_decide_eq_true rfl, of_decide_eq_true rfl⟩ | exact .inr ⟨of_decide_eq_true rfl, of_decide_eq_true rfl⟩ | exact ⟨by omega, by omega⟩)); conv => whnf)
      refine kd_bl ?_ h
      rw [List.length_map]
      by_cases hn : zs.Nodup
      · have := hk.eq.mpr hn
        rw [decide_eq_true hn, decide_eq_true (by omega)]
      · have := mt hk.eq.mp hn
        rw [decide_eq_false hn, decide_eq_false (by omega)]
theorem unlike_u {zs : List Str} (hl : zs.length < 1000000) (h : kd (.bl (decide zs.Nodup))) : sm_are_unlike [.tup (zs.map D.str)] kd kx := by
  have hs := sizeLine_eq
  unfold sm_are_unlike
  refine ⟨rfl, ?_⟩
  conv => whnf
  repeat ((with_reducible refine And.intro ?_ ?_); (focus (first | omega | rfl | exact True.intro | exact ⟨rfl, rfl⟩ | exact .inl rfl | exact of_decide_eq_true rfl | exact ⟨rfl, of_decide_eq_true rfl⟩ | decide | assumption | exact .inl ⟨of_decide_eq_true rfl, of_decide_eq_true rfl⟩ | exact .inr ⟨of_decide_eq_true rfl, of_decide_eq_true rfl⟩ | exact ⟨by omega, by omega⟩)); conv => whnf)
  refine compDI (fun l ρ ks acc => ρ = [some (.fr (.tup (zs.map D.str))), none] ∧ ∃ done rest : List Str, zs = done ++ rest ∧ l = rest.map D.str ∧ Keyed done ks ∧ ks.length = acc.length) ⟨rfl, [], zs, rfl, rfl, .nil, rfl⟩ ?_ ?_
  · rintro d l ρ ks acc ⟨rfl, done, rest, ez, e, hk, hla⟩ ih
    cases rest with
    | nil => cases e
    | cons r rest =>
      cases e
      have hlz : zs.length = done.length + (rest.length + 1) := by rw [ez]; simp
      have hks : ks.length < sizeLine := by have := hk.le; omega
      conv => whnf
      repeat ((with_reducible refine And.intro ?_ ?_); (focus (first | omega | rfl | exact True.intro | exact ⟨rfl, rfl⟩ | exact .inl rfl | exact of_decide_eq_true rfl | exact ⟨rfl, of_decide_eq_true rfl⟩ | decide | assumption | exact .inl ⟨of_decide_eq_true rfl, of_decide_eq_true rfl⟩ | exact .inr ⟨of_decide_eq_true rfl, of_decide_eq_true rfl⟩ | exact ⟨by omega, by omega⟩)); conv => whnf)
      obtain ⟨q1, q2⟩ := hk.put hla r (.bl true)
      exact ih _ _ _ ⟨rfl, done ++ [r], rest, by rw [ez]; simp, rfl, q1, q2⟩
  · rintro ρ ks acc ⟨rfl, done, rest, ez, e, hk, hla⟩
    cases rest with
    | cons _ _ => cases e
    | nil =>
      rw [List.append_nil] at ez
      subst ez
      conv => whnf
      repeat ((with_reducible refine And.intro ?_ ?_); (focus (first | omega | rfl | exact True.intro | exact ⟨rfl, rfl⟩ | exact .inl rfl | exact of_decide_eq_true rfl | exact ⟨rfl, of_decide_eq_true rfl⟩ | decide | assumption | exact .inl ⟨of_decide_eq_true rfl, of_decide_eq_true rfl⟩ | exact .inr ⟨of_decide_eq_true rfl, of_decide_eq_true rfl⟩ | exact ⟨by omega, by omega⟩)); conv => whnf)
      refine kd_bl ?_ h
      rw [List.length_map]
      by_cases hn : zs.Nodup
      · have := hk.eq.mpr hn
        rw [decide_eq_true hn, decide_eq_true (by omega)]
      · have := mt hk.eq.mp hn
        rw [decide_eq_false hn, decide_eq_false (by omega)]
/-- a test -/
def testB : D → Bool
  | .str z => wordB ["above", "below", "own"] (.str (partS z))
  | _ => false
/-- a sequence -/
def seqB : D → Bool
  | .lst _ => true
  | .tup _ => true
  | _ => false
def itsOf : D → List D
  | .lst xs => xs
  | .tup xs => xs
  | _ => []
theorem is_seq_t {d : D} (hd : topD d = true) (h : kd (.bl (seqB d))) : sm_is_sequence [d] kd kx := by
  unfold sm_is_sequence
  refine ⟨rfl, ?_⟩
  cases d with
  | str z =>
    conv => whnf
    repeat ((with_reducible refine And.intro ?_ ?_); (focus (first | omega | rfl | exact True.intro | exact ⟨rfl, rfl⟩ | exact .inl rfl | exact of_decide_eq_true rfl | exact ⟨rfl, of_decide_eq_true rfl⟩ | decide | assumption | exact .inl ⟨of_decide_eq_true rfl, of_decide_eq_true rfl⟩ | exact .inr ⟨of_decide_eq_true rfl, of_decide_eq_true rfl⟩ | exact ⟨by omega, by omega⟩)); conv => whnf)
    exact h
  | non =>
    conv => whnf
    repeat ((with_reducible refine And.intro ?_ ?_); (focus (first | omega | rfl | exact True.intro | exact ⟨rfl, rfl⟩ | exact .inl rfl | exact of_decide_eq_true rfl | exact ⟨rfl, of_decide_eq_true rfl⟩ | decide | assumption | exact .inl ⟨of_decide_eq_true rfl, of_decide_eq_true rfl⟩ | exact .inr ⟨of_decide_eq_true rfl, of_decide_eq_true rfl⟩ | exact ⟨by omega, by omega⟩)); conv => whnf)
    exact h
  | bl _ =>
    conv => whnf
    repeat ((with_reducible refine And.intro ?_ ?_); (focus (first | omega | rfl | exact True.intro | exact ⟨rfl, rfl⟩ | exact .inl rfl | exact of_decide_eq_true rfl | exact ⟨rfl, of_decide_eq_true rfl⟩ | decide | assumption | exact .inl ⟨of_decide_eq_true rfl, of_decide_eq_true rfl⟩ | exact .inr ⟨of_decide_eq_true rfl, of_decide_eq_true rfl⟩ | exact ⟨by omega, by omega⟩)); conv => whnf)
    exact h
  | int _ =>
    conv => whnf
    repeat ((with_reducible refine And.intro ?_ ?_); (focus (first | omega | rfl | exact True.intro | exact ⟨rfl, rfl⟩ | exact .inl rfl | exact of_decide_eq_true rfl | exact ⟨rfl, of_decide_eq_true rfl⟩ | decide | assumption | exact .inl ⟨of_decide_eq_true rfl, of_decide_eq_true rfl⟩ | exact .inr ⟨of_decide_eq_true rfl, of_decide_eq_true rfl⟩ | exact ⟨by omega, by omega⟩)); conv => whnf)
    exact h
  | lst _ =>
    conv => whnf
    repeat ((with_reducible refine And.intro ?_ ?_); (focus (first | omega | rfl | exact True.intro | exact ⟨rfl, rfl⟩ | exact .inl rfl | exact of_decide_eq_true rfl | exact ⟨rfl, of_decide_eq_true rfl⟩ | decide | assumption | exact .inl ⟨of_decide_eq_true rfl, of_decide_eq_true rfl⟩ | exact .inr ⟨of_decide_eq_true rfl, of_decide_eq_true rfl⟩ | exact ⟨by omega, by omega⟩)); conv => whnf)
    exact h
  | tup _ =>
    conv => whnf
    repeat ((with_reducible refine And.intro ?_ ?_); (focus (first | omega | rfl | exact True.intro | exact ⟨rfl, rfl⟩ | exact .inl rfl | exact of_decide_eq_true rfl | exact ⟨rfl, of_decide_eq_true rfl⟩ | decide | assumption | exact .inl ⟨of_decide_eq_true rfl, of_decide_eq_true rfl⟩ | exact .inr ⟨of_decide_eq_true rfl, of_decide_eq_true rfl⟩ | exact ⟨by omega, by omega⟩)); conv => whnf)
    exact h
  | _ => cases hd
def strOf : D → Str
  | .str z => z
  | _ => ""
def testsB (d : D) : Bool := seqB d && ((itsOf d).all testB && decide ((itsOf d).map fun x => partS (strOf x)).Nodup)
theorem top_len {z : Str} (h : topD (.str z) = true) : z.length ≤ 100 := of_decide_eq_true (Bool.and_eq_true_iff.mp h).1
theorem are_tests_lst {xs : List D} (hl : xs.length < 1000000) (hi : ∀ x ∈ xs, topD x = true) (h : kd (.bl (testsB (.lst xs)))) : sm_are_tests [.lst xs] kd kx := by
  have hs := sizeLine_eq
  have h : kd (.bl (xs.all testB && decide (xs.map fun x => partS (strOf x)).Nodup)) := h
  unfold sm_are_tests
  refine ⟨rfl, ?_⟩
  conv => whnf
  repeat ((with_reducible refine And.intro ?_ ?_); (focus (first | omega | rfl | exact True.intro | exact ⟨rfl, rfl⟩ | exact .inl rfl | exact of_decide_eq_true rfl | exact ⟨rfl, of_decide_eq_true rfl⟩ | decide | assumption | exact .inl ⟨of_decide_eq_true rfl, of_decide_eq_true rfl⟩ | exact .inr ⟨of_decide_eq_true rfl, of_decide_eq_true rfl⟩ | exact ⟨by omega, by omega⟩)); conv => whnf)
  refine is_seq_t rfl ?_
  conv => whnf
  repeat ((with_reducible refine And.intro ?_ ?_); (focus (first | omega | rfl | exact True.intro | exact ⟨rfl, rfl⟩ | exact .inl rfl | exact of_decide_eq_true rfl | exact ⟨rfl, of_decide_eq_true rfl⟩ | decide | assumption | exact .inl ⟨of_decide_eq_true rfl, of_decide_eq_true rfl⟩ | exact .inr ⟨of_decide_eq_true rfl, of_decide_eq_true rfl⟩ | exact ⟨by omega, by omega⟩)); conv => whnf)
  refine compM (fun d => .bl (testB d)) (by omega) (fun d k' hd hk => ?_) ?_
  · have ht := hi d hd
    cases d with
    | str z =>
      have hz := top_len ht
      conv => whnf
      repeat ((with_reducible refine And.intro ?_ ?_); (focus (first | omega | rfl | exact True.intro | exact ⟨rfl, rfl⟩ | exact .inl rfl | exact of_decide_eq_true rfl | exact ⟨rfl, of_decide_eq_true rfl⟩ | decide | assumption | exact .inl ⟨of_decide_eq_true rfl, of_decide_eq_true rfl⟩ | exact .inr ⟨of_decide_eq_true rfl, of_decide_eq_true rfl⟩ | exact ⟨by omega, by omega⟩)); conv => whnf)
      refine part_of_t (by omega) ?_
      conv => whnf
      repeat ((with_reducible refine And.intro ?_ ?_); (focus (first | omega | rfl | exact True.intro | exact ⟨rfl, rfl⟩ | exact .inl rfl | exact of_decide_eq_true rfl | exact ⟨rfl, of_decide_eq_true rfl⟩ | decide | assumption | exact .inl ⟨of_decide_eq_true rfl, of_decide_eq_true rfl⟩ | exact .inr ⟨of_decide_eq_true rfl, of_decide_eq_true rfl⟩ | exact ⟨by omega, by omega⟩)); conv => whnf)
      exact hk
    | non =>
      conv => whnf
      repeat ((with_reducible refine And.intro ?_ ?_); (focus (first | omega | rfl | exact True.intro | exact ⟨rfl, rfl⟩ | exact .inl rfl | exact of_decide_eq_true rfl | exact ⟨rfl, of_decide_eq_true rfl⟩ | decide | assumption | exact .inl ⟨of_decide_eq_true rfl, of_decide_eq_true rfl⟩ | exact .inr ⟨of_decide_eq_true rfl, of_decide_eq_true rfl⟩ | exact ⟨by omega, by omega⟩)); conv => whnf)
      exact hk
    | bl _ =>
      conv => whnf
      repeat ((with_reducible refine And.intro ?_ ?_); (focus (first | omega | rfl | exact True.intro | exact ⟨rfl, rfl⟩ | exact .inl rfl | exact of_decide_eq_true rfl | exact ⟨rfl, of_decide_eq_true rfl⟩ | decide | assumption | exact .inl ⟨of_decide_eq_true rfl, of_decide_eq_true rfl⟩ | exact .inr ⟨of_decide_eq_true rfl, of_decide_eq_true rfl⟩ | exact ⟨by omega, by omega⟩)); conv => whnf)
      exact hk
    | int _ =>
      conv => whnf
      repeat ((with_reducible refine And.intro ?_ ?_); (focus (first | omega | rfl | exact True.intro | exact ⟨rfl, rfl⟩ | exact .inl rfl | exact of_decide_eq_true rfl | exact ⟨rfl, of_decide_eq_true rfl⟩ | decide | assumption | exact .inl ⟨of_decide_eq_true rfl, of_decide_eq_true rfl⟩ | exact .inr ⟨of_decide_eq_true rfl, of_decide_eq_true rfl⟩ | exact ⟨by omega, by omega⟩)); conv => whnf)
      exact hk
    | lst _ =>
      conv => whnf
      repeat ((with_reducible refine And.intro ?_ ?_); (focus (first | omega | rfl | exact True.intro | exact ⟨rfl, rfl⟩ | exact .inl rfl | exact of_decide_eq_true rfl | exact ⟨rfl, of_decide_eq_true rfl⟩ | decide | assumption | exact .inl ⟨of_decide_eq_true rfl, of_decide_eq_true rfl⟩ | exact .inr ⟨of_decide_eq_true rfl, of_decide_eq_true rfl⟩ | exact ⟨by omega, by omega⟩)); conv => whnf)
      exact hk
    | tup _ =>
      conv => whnf
      repeat ((with_reducible refine And.intro ?_ ?_); (focus (first | omega | rfl | exact True.intro | exact ⟨rfl, rfl⟩ | exact .inl rfl | exact of_decide_eq_true rfl | exact ⟨rfl, of_decide_eq_true rfl⟩ | decide | assumption | exact .inl ⟨of_decide_eq_true rfl, of_decide_eq_true rfl⟩ | exact .inr ⟨of_decide_eq_true rfl, of_decide_eq_true rfl⟩ | exact ⟨by omega, by omega⟩)); conv => whnf)
      exact hk
    | _ => cases ht
  conv => whnf
  repeat ((with_reducible refine And.intro ?_ ?_); (focus (first | omega | rfl | exact True.intro | exact ⟨rfl, rfl⟩ | exact .inl rfl | exact of_decide_eq_true rfl | exact ⟨rfl, of_decide_eq_true rfl⟩ | decide | assumption | exact .inl ⟨of_decide_eq_true rfl, of_decide_eq_true rfl⟩ | exact .inr ⟨of_decide_eq_true rfl, of_decide_eq_true rfl⟩ | exact ⟨by omega, by omega⟩)); conv => whnf)
  rw [bools_map]
  have ea : (xs.map testB).all id = xs.all testB := by rw [List.all_map]; rfl
  conv => whnf
  repeat ((with_reducible refine And.intro ?_ ?_); (focus (first | omega | rfl | exact True.intro | exact ⟨rfl, rfl⟩ | exact .inl rfl | exact of_decide_eq_true rfl | exact ⟨rfl, of_decide_eq_true rfl⟩ | decide | assumption | exact .inl ⟨of_decide_eq_true rfl, of_decide_eq_true rfl⟩ | exact .inr ⟨of_decide_eq_true rfl, of_decide_eq_true rfl⟩ | exact ⟨by omega, by omega⟩)); conv => whnf)
  cases hb : xs.all testB with
  | false =>
    rw [hb] at h
    refine ite_t (by rw [ea, hb]; rfl) ?_
    conv => whnf
    repeat ((with_reducible refine And.intro ?_ ?_); (focus (first | omega | rfl | exact True.intro | exact ⟨rfl, rfl⟩ | exact .inl rfl | exact of_decide_eq_true rfl | exact ⟨rfl, of_decide_eq_true rfl⟩ | decide | assumption | exact .inl ⟨of_decide_eq_true rfl, of_decide_eq_true rfl⟩ | exact .inr ⟨of_decide_eq_true rfl, of_decide_eq_true rfl⟩ | exact ⟨by omega, by omega⟩)); conv => whnf)
    exact h
  | true =>
    rw [hb] at h
    refine ite_f (by rw [ea, hb]; exact Bool.false_ne_true) ?_
    conv => whnf
    repeat ((with_reducible refine And.intro ?_ ?_); (focus (first | omega | rfl | exact True.intro | exact ⟨rfl, rfl⟩ | exact .inl rfl | exact of_decide_eq_true rfl | exact ⟨rfl, of_decide_eq_true rfl⟩ | decide | assumption | exact .inl ⟨of_decide_eq_true rfl, of_decide_eq_true rfl⟩ | exact .inr ⟨of_decide_eq_true rfl, of_decide_eq_true rfl⟩ | exact ⟨by omega, by omega⟩)); conv => whnf)
    refine compM (fun d => .str (partS (strOf d))) (by omega) (fun d k' hd hk => ?_) ?_
    · have ht := hi d hd
      have hb2 := List.all_eq_true.mp hb d hd
      cases d with
      | str z =>
        have hz := top_len ht
        conv => whnf
        repeat ((with_reducible refine And.intro ?_ ?_); (focus (first | omega | rfl | exact True.intro | exact ⟨rfl, rfl⟩ | exact .inl rfl | exact of_decide_eq_true rfl | exact ⟨rfl, of_decide_eq_true rfl⟩ | decide | assumption | exact .inl ⟨of_decide_eq_true rfl, of_decide_eq_true rfl⟩ | exact .inr ⟨of_decide_eq_true rfl, of_decide_eq_true rfl⟩ | exact ⟨by omega, by omega⟩)); conv => whnf)
        refine part_of_t (by omega) ?_
        conv => whnf
        repeat ((with_reducible refine And.intro ?_ ?_); (focus (first | omega | rfl | exact True.intro | exact ⟨rfl, rfl⟩ | exact .inl rfl | exact of_decide_eq_true rfl | exact ⟨rfl, of_decide_eq_true rfl⟩ | decide | assumption | exact .inl ⟨of_decide_eq_true rfl, of_decide_eq_true rfl⟩ | exact .inr ⟨of_decide_eq_true rfl, of_decide_eq_true rfl⟩ | exact ⟨by omega, by omega⟩)); conv => whnf)
        exact hk
      | _ => cases hb2
    conv => whnf
    repeat ((with_reducible refine And.intro ?_ ?_); (focus (first | omega | rfl | exact True.intro | exact ⟨rfl, rfl⟩ | exact .inl rfl | exact of_decide_eq_true rfl | exact ⟨rfl, of_decide_eq_true rfl⟩ | decide | assumption | exact .inl ⟨of_decide_eq_true rfl, of_decide_eq_true rfl⟩ | exact .inr ⟨of_decide_eq_true rfl, of_decide_eq_true rfl⟩ | exact ⟨by omega, by omega⟩)); conv => whnf)
    have e3 : (xs.map fun d => D.str (partS (strOf d))) = (xs.map fun d => partS (strOf d)).map D.str := by rw [List.map_map]; rfl
    rw [e3]
    refine unlike_t (by rw [List.length_map]; exact hl) ?_
    exact h
theorem are_tests_tup {xs : List D} (hl : xs.length < 1000000) (hi : ∀ x ∈ xs, topD x = true) (h : kd (.bl (testsB (.tup xs)))) : sm_are_tests [.tup xs] kd kx := by
  have hs := sizeLine_eq
  have h : kd (.bl (xs.all testB && decide (xs.map fun x => partS (strOf x)).Nodup)) := h
  unfold sm_are_tests
  refine ⟨rfl, ?_⟩
  conv => whnf
  repeat ((with_reducible refine And.intro ?_ ?_); (focus (first | omega | rfl | exact True.intro | exact ⟨rfl, rfl⟩ | exact .inl rfl | exact of_decide_eq_true rfl | exact ⟨rfl, of_decide_eq_true rfl⟩ | decide | assumption | exact .inl ⟨of_decide_eq_true rfl, of_decide_eq_true rfl⟩ | exact .inr ⟨of_decide_eq_true rfl, of_decide_eq_true rfl⟩ | exact ⟨by omega, by omega⟩)); conv => whnf)
  refine is_seq_t rfl ?_
  conv => whnf
  repeat ((with_reducible refine And.intro ?_ ?_); (focus (first | omega | rfl | exact True.intro | exact ⟨rfl, rfl⟩ | exact .inl rfl | exact of_decide_eq_true rfl | exact ⟨rfl, of_decide_eq_true rfl⟩ | decide | assumption | exact .inl ⟨of_decide_eq_true rfl, of_decide_eq_true rfl⟩ | exact .inr ⟨of_decide_eq_true rfl, of_decide_eq_true rfl⟩ | exact ⟨by omega, by omega⟩)); conv => whnf)
  refine compM (fun d => .bl (testB d)) (by omega) (fun d k' hd hk => ?_) ?_
  · have ht := hi d hd
    cases d with
    | str z =>
      have hz := top_len ht
      conv => whnf
      repeat ((with_reducible refine And.intro ?_ ?_); (focus (first | omega | rfl | exact True.intro | exact ⟨rfl, rfl⟩ | exact .inl rfl | exact of_decide_eq_true rfl | exact ⟨rfl, of_decide_eq_true rfl⟩ | decide | assumption | exact .inl ⟨of_decide_eq_true rfl, of_decide_eq_true rfl⟩ | exact .inr ⟨of_decide_eq_true rfl, of_decide_eq_true rfl⟩ | exact ⟨by omega, by omega⟩)); conv => whnf)
      refine part_of_t (by omega) ?_
      conv => whnf
      repeat ((with_reducible refine And.intro ?_ ?_); (focus (first | omega | rfl | exact True.intro | exact ⟨rfl, rfl⟩ | exact .inl rfl | exact of_decide_eq_true rfl | exact ⟨rfl, of_decide_eq_true rfl⟩ | decide | assumption | exact .inl ⟨of_decide_eq_true rfl, of_decide_eq_true rfl⟩ | exact .inr ⟨of_decide_eq_true rfl, of_decide_eq_true rfl⟩ | exact ⟨by omega, by omega⟩)); conv => whnf)
      exact hk
    | non =>
      conv => whnf
      repeat ((with_reducible refine And.intro ?_ ?_); (focus (first | omega | rfl | exact True.intro | exact ⟨rfl, rfl⟩ | exact .inl rfl | exact of_decide_eq_true rfl | exact ⟨rfl, of_decide_eq_true rfl⟩ | decide | assumption | exact .inl ⟨of_decide_eq_true rfl, of_decide_eq_true rfl⟩ | exact .inr ⟨of_decide_eq_true rfl, of_decide_eq_true rfl⟩ | exact ⟨by omega, by omega⟩)); conv => whnf)
      exact hk
    | bl _ =>
      conv => whnf
      repeat ((with_reducible refine And.intro ?_ ?_); (focus (first | omega | rfl | exact True.intro | exact ⟨rfl, rfl⟩ | exact .inl rfl | exact of_decide_eq_true rfl | exact ⟨rfl, of_decide_eq_true rfl⟩ | decide | assumption | exact .inl ⟨of_decide_eq_true rfl, of_decide_eq_true rfl⟩ | exact .inr ⟨of_decide_eq_true rfl, of_decide_eq_true rfl⟩ | exact ⟨by omega, by omega⟩)); conv => whnf)
      exact hk
    | int _ =>
      conv => whnf
      repeat ((with_reducible refine And.intro ?_ ?_); (focus (first | omega | rfl | exact True.intro | exact ⟨rfl, rfl⟩ | exact .inl rfl | exact of_decide_eq_true rfl | exact ⟨rfl, of_decide_eq_true rfl⟩ | decide | assumption | exact .inl ⟨of_decide_eq_true rfl, of_decide_eq_true rfl⟩ | exact .inr ⟨of_decide_eq_true rfl, of_decide_eq_true rfl⟩ | exact ⟨by omega, by omega⟩)); conv => whnf)
      exact hk
    | lst _ =>
      conv => whnf
      repeat ((with_reducible refine And.intro ?_ ?_); (focus (first | omega | rfl | exact True.intro | exact ⟨rfl, rfl⟩ | exact .inl rfl | exact of_decide_eq_true rfl | exact ⟨rfl, of_decide_eq_true rfl⟩ | decide | assumption | exact .inl ⟨of_decide_eq_true rfl, of_decide_eq_true rfl⟩ | exact .inr ⟨of_decide_eq_true rfl, of_decide_eq_true rfl⟩ | exact ⟨by omega, by omega⟩)); conv => whnf)
      exact hk
    | tup _ =>
      conv => whnf
      repeat ((with_reducible refine And.intro ?_ ?_); (focus (first | omega | rfl | exact True.intro | exact ⟨rfl, rfl⟩ | exact .inl rfl | exact of_decide_eq_true rfl | exact ⟨rfl, of_decide_eq_true rfl⟩ | decide | assumption | exact .inl ⟨of_decide_eq_true rfl, of_decide_eq_true rfl⟩ | exact .inr ⟨of_decide_eq_true rfl, of_decide_eq_true rfl⟩ | exact ⟨by omega, by omega⟩)); conv => whnf)
      exact hk
    | _ => cases ht
  conv => whnf
  repeat ((with_reducible refine And.intro ?_ ?_); (focus (first | omega | rfl | exact True.intro | exact ⟨rfl, rfl⟩ | exact .inl rfl | exact of_decide_eq_true rfl | exact ⟨rfl, of_decide_eq_true rfl⟩ | decide | assumption | exact .inl ⟨of_decide_eq_true rfl, of_decide_eq_true rfl⟩ | exact .inr ⟨of_decide_eq_true rfl, of_decide_eq_true rfl⟩ | exact ⟨by omega, by omega⟩)); conv => whnf)
  rw [bools_map]
  have ea : (xs.map testB).all id = xs.all testB := by rw [List.all_map]; rfl
  conv => whnf
  repeat ((with_reducible refine And.intro ?_ ?_); (focus (first | omega | rfl | exact True.intro | exact ⟨rfl, rfl⟩ | exact .inl rfl | exact of_decide_eq_true rfl | exact ⟨rfl, of_decide_eq_true rfl⟩ | decide | assumption | exact .inl ⟨of_decide_eq_true rfl, of_decide_eq_true rfl⟩ | exact .inr ⟨of_decide_eq_true rfl, of_decide_eq_true rfl⟩ | exact ⟨by omega, by omega⟩)); conv => whnf)
  cases hb : xs.all testB with
  | false =>
    rw [hb] at h
    refine ite_t (by rw [ea, hb]; rfl) ?_
    conv => whnf
    repeat ((with_reducible refine And.intro ?_ ?_); (focus (first | omega | rfl | exact True.intro | exact ⟨rfl, rfl⟩ | exact .inl rfl | exact of_decide_eq_true rfl | exact ⟨rfl, of_decide_eq_true rfl⟩ | decide | assumption | exact .inl ⟨of_decide_eq_true rfl, of_decide_eq_true rfl⟩ | exact .inr ⟨of_decide_eq_true rfl, of_decide_eq_true rfl⟩ | exact ⟨by omega, by omega⟩)); conv => whnf)
    exact h
  | true =>
    rw [hb] at h
    refine ite_f (by rw [ea, hb]; exact Bool.false_ne_true) ?_
    conv => whnf
    repeat ((with_reducible refine And.intro ?_ ?_); (focus (first | omega | rfl | exact True.intro | exact ⟨rfl, rfl⟩ | exact .inl rfl | exact of_decide_eq_true rfl | exact ⟨rfl, of_decide_eq_true rfl⟩ | decide | assumption | exact .inl ⟨of_decide_eq_true rfl, of_decide_eq_true rfl⟩ | exact .inr ⟨of_decide_eq_true rfl, of_decide_eq_true rfl⟩ | exact ⟨by omega, by omega⟩)); conv => whnf)
    refine compM (fun d => .str (partS (strOf d))) (by omega) (fun d k' hd hk => ?_) ?_
    · have ht := hi d hd
      have hb2 := List.all_eq_true.mp hb d hd
      cases d with
      | str z =>
        have hz := top_len ht
        conv => whnf
        repeat ((with_reducible refine And.intro ?_ ?_); (focus (first | omega | rfl | exact True.intro | exact ⟨rfl, rfl⟩ | exact .inl rfl | exact of_decide_eq_true rfl | exact ⟨rfl, of_decide_eq_true rfl⟩ | decide | assumption | exact .inl ⟨of_decide_eq_true rfl, of_decide_eq_true rfl⟩ | exact .inr ⟨of_decide_eq_true rfl, of_decide_eq_true rfl⟩ | exact ⟨by omega, by omega⟩)); conv => whnf)
        refine part_of_t (by omega) ?_
        conv => whnf
        repeat ((with_reducible refine And.intro ?_ ?_); (focus (first | omega | rfl | exact True.intro | exact ⟨rfl, rfl⟩ | exact .inl rfl | exact of_decide_eq_true rfl | exact ⟨rfl, of_decide_eq_true rfl⟩ | decide | assumption | exact .inl ⟨of_decide_eq_true rfl, of_decide_eq_true rfl⟩ | exact .inr ⟨of_decide_eq_true rfl, of_decide_eq_true rfl⟩ | exact ⟨by omega, by omega⟩)); conv => whnf)
        exact hk
      | _ => cases hb2
    conv => whnf
    repeat ((with_reducible refine And.intro ?_ ?_); (focus (first | omega | rfl | exact True.intro | exact ⟨rfl, rfl⟩ | exact .inl rfl | exact of_decide_eq_true rfl | exact ⟨rfl, of_decide_eq_true rfl⟩ | decide | assumption | exact .inl ⟨of_decide_eq_true rfl, of_decide_eq_true rfl⟩ | exact .inr ⟨of_decide_eq_true rfl, of_decide_eq_true rfl⟩ | exact ⟨by omega, by omega⟩)); conv => whnf)
    have e3 : (xs.map fun d => D.str (partS (strOf d))) = (xs.map fun d => partS (strOf d)).map D.str := by rw [List.map_map]; rfl
    rw [e3]
    refine unlike_t (by rw [List.length_map]; exact hl) ?_
    exact h
theorem are_tests_t {d : D} (hd : topD d = true) (hl : (itsOf d).length < 1000000) (hi : ∀ x ∈ itsOf d, topD x = true) (h : kd (.bl (testsB d))) : sm_are_tests [d] kd kx := by
  cases d with
  | lst xs => exact are_tests_lst hl hi h
  | tup xs => exact are_tests_tup hl hi h
  | src => cases hd
  | box _ => cases hd
  | scr _ => cases hd
  | ty _ => cases hd
  | cl _ => cases hd
  | dic _ _ => cases hd
  | obj _ _ _ => cases hd
  | _ =>
    unfold sm_are_tests
    refine ⟨rfl, ?_⟩
    conv => whnf
    repeat ((with_reducible refine And.intro ?_ ?_); (focus (first | omega | rfl | exact True.intro | exact ⟨rfl, rfl⟩ | exact .inl rfl | exact of_decide_eq_true rfl | exact ⟨rfl, of_decide_eq_true rfl⟩ | decide | assumption | exact .inl ⟨of_decide_eq_true rfl, of_decide_eq_true rfl⟩ | exact .inr ⟨of_decide_eq_true rfl, of_decide_eq_true rfl⟩ | exact ⟨by omega, by omega⟩)); conv => whnf)
    refine is_seq_t hd ?_
    conv => whnf
    repeat ((with_reducible refine And.intro ?_ ?_); (focus (first | omega | rfl | exact True.intro | exact ⟨rfl, rfl⟩ | exact .inl rfl | exact of_decide_eq_true rfl | exact ⟨rfl, of_decide_eq_true rfl⟩ | decide | assumption | exact .inl ⟨of_decide_eq_true rfl, of_decide_eq_true rfl⟩ | exact .inr ⟨of_decide_eq_true rfl, of_decide_eq_true rfl⟩ | exact ⟨by omega, by omega⟩)); conv => whnf)
    exact h
end
end Lw

set_option Elab.async false
set_option linter.all false
set_option maxRecDepth 100000
set_option maxHeartbeats 0
set_option pp.maxSteps 400
namespace Lw
open PySem PySem.Spec PyProof.Rows L2 DL
section
variable {kd : D → Prop} {kx : DX → Prop}
theorem fm_filter (f : D → Bool) : ∀ l : List D, l.filterMap (fun d => if f d = true then some d else none) = l.filter f
  | [] => rfl
  | d :: l => by
    rw [List.filterMap_cons, List.filter_cons]
    by_cases h : f d = true
    · rw [if_pos h, if_pos h, fm_filter f l]
    · rw [if_neg h, if_neg h, fm_filter f l]
theorem names_t {ds : List D} (hl : ds.length ≤ 100) (hi : ∀ x ∈ ds, topD x = true) (h : kd (.tup (ds.filter nmB))) : sm_names_among [.tup ds] kd kx := by
  have hs := sizeLine_eq
  unfold sm_names_among
  refine ⟨rfl, ?_⟩
  conv => whnf
  repeat ((with_reducible refine And.intro ?_ ?_); (focus (first | omega | rfl | exact True.intro | exact ⟨rfl, rfl⟩ | exact .inl rfl | exact of_decide_eq_true rfl | exact ⟨rfl, of_decide_eq_true rfl⟩ | decide | assumption | exact .inl ⟨of_decide_eq_true rfl, of_decide_eq_true rfl⟩ | exact .inr ⟨of_decide_eq_true rfl, of_decide_eq_true rfl⟩ | exact ⟨by omega, by omega⟩)); conv => whnf)
  refine compF (fun d => if nmB d = true then some d else none) (by omega) (fun d k' hd hk => ?_) ?_
  · conv => whnf
    repeat ((with_reducible refine And.intro ?_ ?_); (focus (first | omega | rfl | exact True.intro | exact ⟨rfl, rfl⟩ | exact .inl rfl | exact of_decide_eq_true rfl | exact ⟨rfl, of_decide_eq_true rfl⟩ | decide | assumption | exact .inl ⟨of_decide_eq_true rfl, of_decide_eq_true rfl⟩ | exact .inr ⟨of_decide_eq_true rfl, of_decide_eq_true rfl⟩ | exact ⟨by omega, by omega⟩)); conv => whnf)
    refine is_name_t (hi d hd) ?_
    conv => whnf
    repeat ((with_reducible refine And.intro ?_ ?_); (focus (first | omega | rfl | exact True.intro | exact ⟨rfl, rfl⟩ | exact .inl rfl | exact of_decide_eq_true rfl | exact ⟨rfl, of_decide_eq_true rfl⟩ | decide | assumption | exact .inl ⟨of_decide_eq_true rfl, of_decide_eq_true rfl⟩ | exact .inr ⟨of_decide_eq_true rfl, of_decide_eq_true rfl⟩ | exact ⟨by omega, by omega⟩)); conv => whnf)
    cases hn : nmB d with
    | true =>
      rw [hn] at hk
      conv => whnf
      repeat ((with_reducible refine And.intro ?_ ?_); (focus (first | omega | rfl | exact True.intro | exact ⟨rfl, rfl⟩ | exact .inl rfl | exact of_decide_eq_true rfl | exact ⟨rfl, of_decide_eq_true rfl⟩ | decide | assumption | exact .inl ⟨of_decide_eq_true rfl, of_decide_eq_true rfl⟩ | exact .inr ⟨of_decide_eq_true rfl, of_decide_eq_true rfl⟩ | exact ⟨by omega, by omega⟩)); conv => whnf)
      exact hk
    | false =>
      rw [hn] at hk
      conv => whnf
      repeat ((with_reducible refine And.intro ?_ ?_); (focus (first | omega | rfl | exact True.intro | exact ⟨rfl, rfl⟩ | exact .inl rfl | exact of_decide_eq_true rfl | exact ⟨rfl, of_decide_eq_true rfl⟩ | decide | assumption | exact .inl ⟨of_decide_eq_true rfl, of_decide_eq_true rfl⟩ | exact .inr ⟨of_decide_eq_true rfl, of_decide_eq_true rfl⟩ | exact ⟨by omega, by omega⟩)); conv => whnf)
      exact hk
  · rw [fm_filter]
    conv => whnf
    repeat ((with_reducible refine And.intro ?_ ?_); (focus (first | omega | rfl | exact True.intro | exact ⟨rfl, rfl⟩ | exact .inl rfl | exact of_decide_eq_true rfl | exact ⟨rfl, of_decide_eq_true rfl⟩ | decide | assumption | exact .inl ⟨of_decide_eq_true rfl, of_decide_eq_true rfl⟩ | exact .inr ⟨of_decide_eq_true rfl, of_decide_eq_true rfl⟩ | exact ⟨by omega, by omega⟩)); conv => whnf)
    exact h
def runO (o t : D) : D := .obj "Run" ["old", "then", "names"] [o, t, .tup ([o, t].filter nmB)]
def leadO (ts o t : D) : D := .obj "Lead" ["tests", "old", "then", "names"] [.tup (itsOf ts), o, t, .tup ([o, t].filter nmB)]
def joinO (h c t : D) : D := .obj "Join" ["here", "came", "then", "names"] [h, c, t, .tup ([h, c, t].filter nmB)]
def joinB (d : D) : Bool := nmB d || wordB ["here", "came"] d
theorem run_g {o t : D} (ho : topD o = true) (ht : topD t = true) (bo : oldB o = true) (bt : nmB t = true) (h : kd (runO o t)) : sm_Run___init__ [o, t] kd kx := by
  unfold sm_Run___init__
  refine ⟨rfl, ?_⟩
  conv => whnf
  repeat ((with_reducible refine And.intro ?_ ?_); (focus (first | omega | rfl | exact True.intro | exact ⟨rfl, rfl⟩ | exact .inl rfl | exact of_decide_eq_true rfl | exact ⟨rfl, of_decide_eq_true rfl⟩ | decide | assumption | exact .inl ⟨of_decide_eq_true rfl, of_decide_eq_true rfl⟩ | exact .inr ⟨of_decide_eq_true rfl, of_decide_eq_true rfl⟩ | exact ⟨by omega, by omega⟩)); conv => whnf)
  refine is_old_t ho ?_
  rw [bo]
  conv => whnf
  repeat ((with_reducible refine And.intro ?_ ?_); (focus (first | omega | rfl | exact True.intro | exact ⟨rfl, rfl⟩ | exact .inl rfl | exact of_decide_eq_true rfl | exact ⟨rfl, of_decide_eq_true rfl⟩ | decide | assumption | exact .inl ⟨of_decide_eq_true rfl, of_decide_eq_true rfl⟩ | exact .inr ⟨of_decide_eq_true rfl, of_decide_eq_true rfl⟩ | exact ⟨by omega, by omega⟩)); conv => whnf)
  refine is_name_t ht ?_
  rw [bt]
  conv => whnf
  repeat ((with_reducible refine And.intro ?_ ?_); (focus (first | omega | rfl | exact True.intro | exact ⟨rfl, rfl⟩ | exact .inl rfl | exact of_decide_eq_true rfl | exact ⟨rfl, of_decide_eq_true rfl⟩ | decide | assumption | exact .inl ⟨of_decide_eq_true rfl, of_decide_eq_true rfl⟩ | exact .inr ⟨of_decide_eq_true rfl, of_decide_eq_true rfl⟩ | exact ⟨by omega, by omega⟩)); conv => whnf)
  refine names_t (by simp) (fun x hx => ?_) ?_
  · simp only [List.mem_cons, List.not_mem_nil, or_false] at hx
    rcases hx with rfl | rfl
    · exact ho
    · exact ht
  conv => whnf
  repeat ((with_reducible refine And.intro ?_ ?_); (focus (first | omega | rfl | exact True.intro | exact ⟨rfl, rfl⟩ | exact .inl rfl | exact of_decide_eq_true rfl | exact ⟨rfl, of_decide_eq_true rfl⟩ | decide | assumption | exact .inl ⟨of_decide_eq_true rfl, of_decide_eq_true rfl⟩ | exact .inr ⟨of_decide_eq_true rfl, of_decide_eq_true rfl⟩ | exact ⟨by omega, by omega⟩)); conv => whnf)
  exact h
theorem join_g {o c t : D} (ho : topD o = true) (hc : topD c = true) (ht : topD t = true) (bo : oldB o = true) (bc : oldB c = true) (bt : joinB t = true) (h : kd (joinO o c t)) : sm_Join___init__ [o, c, t] kd kx := by
  unfold joinB at bt
  unfold sm_Join___init__
  refine ⟨rfl, ?_⟩
  conv => whnf
  repeat ((with_reducible refine And.intro ?_ ?_); (focus (first | omega | rfl | exact True.intro | exact ⟨rfl, rfl⟩ | exact .inl rfl | exact of_decide_eq_true rfl | exact ⟨rfl, of_decide_eq_true rfl⟩ | decide | assumption | exact .inl ⟨of_decide_eq_true rfl, of_decide_eq_true rfl⟩ | exact .inr ⟨of_decide_eq_true rfl, of_decide_eq_true rfl⟩ | exact ⟨by omega, by omega⟩)); conv => whnf)
  refine is_old_t ho ?_
  rw [bo]
  conv => whnf
  repeat ((with_reducible refine And.intro ?_ ?_); (focus (first | omega | rfl | exact True.intro | exact ⟨rfl, rfl⟩ | exact .inl rfl | exact of_decide_eq_true rfl | exact ⟨rfl, of_decide_eq_true rfl⟩ | decide | assumption | exact .inl ⟨of_decide_eq_true rfl, of_decide_eq_true rfl⟩ | exact .inr ⟨of_decide_eq_true rfl, of_decide_eq_true rfl⟩ | exact ⟨by omega, by omega⟩)); conv => whnf)
  refine is_old_t hc ?_
  rw [bc]
  conv => whnf
  repeat ((with_reducible refine And.intro ?_ ?_); (focus (first | omega | rfl | exact True.intro | exact ⟨rfl, rfl⟩ | exact .inl rfl | exact of_decide_eq_true rfl | exact ⟨rfl, of_decide_eq_true rfl⟩ | decide | assumption | exact .inl ⟨of_decide_eq_true rfl, of_decide_eq_true rfl⟩ | exact .inr ⟨of_decide_eq_true rfl, of_decide_eq_true rfl⟩ | exact ⟨by omega, by omega⟩)); conv => whnf)
  refine is_name_t ht ?_
  cases hn : nmB t with
  | true =>
    conv => whnf
    repeat ((with_reducible refine And.intro ?_ ?_); (focus (first | omega | rfl | exact True.intro | exact ⟨rfl, rfl⟩ | exact .inl rfl | exact of_decide_eq_true rfl | exact ⟨rfl, of_decide_eq_true rfl⟩ | decide | assumption | exact .inl ⟨of_decide_eq_true rfl, of_decide_eq_true rfl⟩ | exact .inr ⟨of_decide_eq_true rfl, of_decide_eq_true rfl⟩ | exact ⟨by omega, by omega⟩)); conv => whnf)
    refine names_t (by simp) (fun x hx => ?_) ?_
    · simp only [List.mem_cons, List.not_mem_nil, or_false] at hx
      rcases hx with rfl | rfl | rfl
      · exact ho
      · exact hc
      · exact ht
    conv => whnf
    repeat ((with_reducible refine And.intro ?_ ?_); (focus (first | omega | rfl | exact True.intro | exact ⟨rfl, rfl⟩ | exact .inl rfl | exact of_decide_eq_true rfl | exact ⟨rfl, of_decide_eq_true rfl⟩ | decide | assumption | exact .inl ⟨of_decide_eq_true rfl, of_decide_eq_true rfl⟩ | exact .inr ⟨of_decide_eq_true rfl, of_decide_eq_true rfl⟩ | exact ⟨by omega, by omega⟩)); conv => whnf)
    exact h
  | false =>
    rw [hn] at bt
    conv => whnf
    repeat ((with_reducible refine And.intro ?_ ?_); (focus (first | omega | rfl | exact True.intro | exact ⟨rfl, rfl⟩ | exact .inl rfl | exact of_decide_eq_true rfl | exact ⟨rfl, of_decide_eq_true rfl⟩ | decide | assumption | exact .inl ⟨of_decide_eq_true rfl, of_decide_eq_true rfl⟩ | exact .inr ⟨of_decide_eq_true rfl, of_decide_eq_true rfl⟩ | exact ⟨by omega, by omega⟩)); conv => whnf)
    refine is_word_t (ws := ["here", "came"]) ht ?_
    rw [show wordB ["here", "came"] t = true from bt]
    conv => whnf
    repeat ((with_reducible refine And.intro ?_ ?_); (focus (first | omega | rfl | exact True.intro | exact ⟨rfl, rfl⟩ | exact .inl rfl | exact of_decide_eq_true rfl | exact ⟨rfl, of_decide_eq_true rfl⟩ | decide | assumption | exact .inl ⟨of_decide_eq_true rfl, of_decide_eq_true rfl⟩ | exact .inr ⟨of_decide_eq_true rfl, of_decide_eq_true rfl⟩ | exact ⟨by omega, by omega⟩)); conv => whnf)
    refine names_t (by simp) (fun x hx => ?_) ?_
    · simp only [List.mem_cons, List.not_mem_nil, or_false] at hx
      rcases hx with rfl | rfl | rfl
      · exact ho
      · exact hc
      · exact ht
    conv => whnf
    repeat ((with_reducible refine And.intro ?_ ?_); (focus (first | omega | rfl | exact True.intro | exact ⟨rfl, rfl⟩ | exact .inl rfl | exact of_decide_eq_true rfl | exact ⟨rfl, of_decide_eq_true rfl⟩ | decide | assumption | exact .inl ⟨of_decide_eq_true rfl, of_decide_eq_true rfl⟩ | exact .inr ⟨of_decide_eq_true rfl, of_decide_eq_true rfl⟩ | exact ⟨by omega, by omega⟩)); conv => whnf)
    exact h
theorem lead_g {ts o t : D} (hts : topD ts = true) (hl : (itsOf ts).length < 1000000) (hi : ∀ x ∈ itsOf ts, topD x = true) (ho : topD o = true) (ht : topD t = true) (bts : testsB ts = true) (bo : oldB o = true) (bt : nmB t = true) (h : kd (leadO ts o t)) : sm_Lead___init__ [ts, o, t] kd kx := by
  unfold sm_Lead___init__
  refine ⟨rfl, ?_⟩
  conv => whnf
  repeat ((with_reducible refine And.intro ?_ ?_); (focus (first | omega | rfl | exact True.intro | exact ⟨rfl, rfl⟩ | exact .inl rfl | exact of_decide_eq_true rfl | exact ⟨rfl, of_decide_eq_true rfl⟩ | decide | assumption | exact .inl ⟨of_decide_eq_true rfl, of_decide_eq_true rfl⟩ | exact .inr ⟨of_decide_eq_true rfl, of_decide_eq_true rfl⟩ | exact ⟨by omega, by omega⟩)); conv => whnf)
  refine are_tests_t hts hl hi ?_
  rw [bts]
  conv => whnf
  repeat ((with_reducible refine And.intro ?_ ?_); (focus (first | omega | rfl | exact True.intro | exact ⟨rfl, rfl⟩ | exact .inl rfl | exact of_decide_eq_true rfl | exact ⟨rfl, of_decide_eq_true rfl⟩ | decide | assumption | exact .inl ⟨of_decide_eq_true rfl, of_decide_eq_true rfl⟩ | exact .inr ⟨of_decide_eq_true rfl, of_decide_eq_true rfl⟩ | exact ⟨by omega, by omega⟩)); conv => whnf)
  refine is_old_t ho ?_
  rw [bo]
  conv => whnf
  repeat ((with_reducible refine And.intro ?_ ?_); (focus (first | omega | rfl | exact True.intro | exact ⟨rfl, rfl⟩ | exact .inl rfl | exact of_decide_eq_true rfl | exact ⟨rfl, of_decide_eq_true rfl⟩ | decide | assumption | exact .inl ⟨of_decide_eq_true rfl, of_decide_eq_true rfl⟩ | exact .inr ⟨of_decide_eq_true rfl, of_decide_eq_true rfl⟩ | exact ⟨by omega, by omega⟩)); conv => whnf)
  refine is_name_t ht ?_
  rw [bt]
  cases ts with
  | lst xs =>
    conv => whnf
    repeat ((with_reducible refine And.intro ?_ ?_); (focus (first | omega | rfl | exact True.intro | exact ⟨rfl, rfl⟩ | exact .inl rfl | exact of_decide_eq_true rfl | exact ⟨rfl, of_decide_eq_true rfl⟩ | decide | assumption | exact .inl ⟨of_decide_eq_true rfl, of_decide_eq_true rfl⟩ | exact .inr ⟨of_decide_eq_true rfl, of_decide_eq_true rfl⟩ | exact ⟨by omega, by omega⟩)); conv => whnf)
    refine names_t (by simp) (fun x hx => ?_) ?_
    · simp only [List.mem_cons, List.not_mem_nil, or_false] at hx
      rcases hx with rfl | rfl
      · exact ho
      · exact ht
    conv => whnf
    repeat ((with_reducible refine And.intro ?_ ?_); (focus (first | omega | rfl | exact True.intro | exact ⟨rfl, rfl⟩ | exact .inl rfl | exact of_decide_eq_true rfl | exact ⟨rfl, of_decide_eq_true rfl⟩ | decide | assumption | exact .inl ⟨of_decide_eq_true rfl, of_decide_eq_true rfl⟩ | exact .inr ⟨of_decide_eq_true rfl, of_decide_eq_true rfl⟩ | exact ⟨by omega, by omega⟩)); conv => whnf)
    exact h
  | tup xs =>
    conv => whnf
    repeat ((with_reducible refine And.intro ?_ ?_); (focus (first | omega | rfl | exact True.intro | exact ⟨rfl, rfl⟩ | exact .inl rfl | exact of_decide_eq_true rfl | exact ⟨rfl, of_decide_eq_true rfl⟩ | decide | assumption | exact .inl ⟨of_decide_eq_true rfl, of_decide_eq_true rfl⟩ | exact .inr ⟨of_decide_eq_true rfl, of_decide_eq_true rfl⟩ | exact ⟨by omega, by omega⟩)); conv => whnf)
    refine names_t (by simp) (fun x hx => ?_) ?_
    · simp only [List.mem_cons, List.not_mem_nil, or_false] at hx
      rcases hx with rfl | rfl
      · exact ho
      · exact ht
    conv => whnf
    repeat ((with_reducible refine And.intro ?_ ?_); (focus (first | omega | rfl | exact True.intro | exact ⟨rfl, rfl⟩ | exact .inl rfl | exact of_decide_eq_true rfl | exact ⟨rfl, of_decide_eq_true rfl⟩ | decide | assumption | exact .inl ⟨of_decide_eq_true rfl, of_decide_eq_true rfl⟩ | exact .inr ⟨of_decide_eq_true rfl, of_decide_eq_true rfl⟩ | exact ⟨by omega, by omega⟩)); conv => whnf)
    exact h
  | _ => cases bts
end
end Lw

set_option Elab.async false
set_option linter.all false
set_option maxRecDepth 100000
set_option maxHeartbeats 0
set_option pp.maxSteps 400
namespace Lw
open PySem PySem.Spec PyProof.Rows L2 DL
inductive Rw where
  | run (o t : Str) | lead (ts : List Str) (o t : Str) | join (h c t : Str)
deriving DecidableEq
def askedS : List Str → Str
  | [] => "always"
  | t :: ts => Txt.join " and " (t :: ts)
def rowT : Rw → Str
  | .run o t => ("run " : Str) ++ o ++ " to " ++ t
  | .lead ts o t => ("lead " : Str) ++ askedS ts ++ " " ++ o ++ " to " ++ t
  | .join h c t => ("join " : Str) ++ h ++ " " ++ c ++ " to " ++ t
def rowO : Rw → D
  | .run o t => runO (.str o) (.str t)
  | .lead ts o t => leadO (.tup (ts.map D.str)) (.str o) (.str t)
  | .join h c t => joinO (.str h) (.str c) (.str t)
def clO : Rw → Str
  | .run _ _ => "Run"
  | .lead _ _ _ => "Lead"
  | .join _ _ _ => "Join"
section
variable {kd : D → Prop} {kx : DX → Prop}
theorem c_run : (("run " : String) : Str).length = 4 := rfl
theorem c_lead : (("lead " : String) : Str).length = 5 := rfl
theorem c_join : (("join " : String) : Str).length = 5 := rfl
theorem c_to : ((" to " : String) : Str).length = 4 := rfl
theorem c_sp : ((" " : String) : Str).length = 1 := rfl
theorem c_alw : (("always" : String) : Str).length = 6 := rfl
theorem run_str {o t : Str} (ho : o.length ≤ 1000) (ht : t.length ≤ 1000) (h : kd (.str (rowT (.run o t)))) : sm_Run___str__ [rowO (.run o t)] kd kx := by
  have hs := sizeLine_eq
  unfold sm_Run___str__
  refine ⟨rfl, ?_⟩
  conv => whnf
  repeat ((with_reducible refine And.intro ?_ ?_); (focus (first | omega | rfl | exact True.intro | exact ⟨rfl, rfl⟩ | exact .inl rfl | exact of_decide_eq_true rfl | exact ⟨rfl, of_decide_eq_true rfl⟩ | decide | assumption | exact .inl ⟨of_decide_eq_true rfl, of_decide_eq_true rfl⟩ | exact .inr ⟨of_decide_eq_true rfl, of_decide_eq_true rfl⟩ | exact ⟨by omega, by omega⟩)); conv => whnf)
  refine ⟨by simp only [empty_app, Str.length_append, c_run, c_lead, c_join, c_to, c_sp, c_alw]; omega, ?_⟩
  conv => whnf
  repeat ((with_reducible refine And.intro ?_ ?_); (focus (first | omega | rfl | exact True.intro | exact ⟨rfl, rfl⟩ | exact .inl rfl | exact of_decide_eq_true rfl | exact ⟨rfl, of_decide_eq_true rfl⟩ | decide | assumption | exact .inl ⟨of_decide_eq_true rfl, of_decide_eq_true rfl⟩ | exact .inr ⟨of_decide_eq_true rfl, of_decide_eq_true rfl⟩ | exact ⟨by omega, by omega⟩)); conv => whnf)
  refine ⟨by simp only [empty_app, Str.length_append, c_run, c_lead, c_join, c_to, c_sp, c_alw]; omega, ?_⟩
  conv => whnf
  repeat ((with_reducible refine And.intro ?_ ?_); (focus (first | omega | rfl | exact True.intro | exact ⟨rfl, rfl⟩ | exact .inl rfl | exact of_decide_eq_true rfl | exact ⟨rfl, of_decide_eq_true rfl⟩ | decide | assumption | exact .inl ⟨of_decide_eq_true rfl, of_decide_eq_true rfl⟩ | exact .inr ⟨of_decide_eq_true rfl, of_decide_eq_true rfl⟩ | exact ⟨by omega, by omega⟩)); conv => whnf)
  refine ⟨by simp only [empty_app, Str.length_append, c_run, c_lead, c_join, c_to, c_sp, c_alw]; omega, ?_⟩
  conv => whnf
  repeat ((with_reducible refine And.intro ?_ ?_); (focus (first | omega | rfl | exact True.intro | exact ⟨rfl, rfl⟩ | exact .inl rfl | exact of_decide_eq_true rfl | exact ⟨rfl, of_decide_eq_true rfl⟩ | decide | assumption | exact .inl ⟨of_decide_eq_true rfl, of_decide_eq_true rfl⟩ | exact .inr ⟨of_decide_eq_true rfl, of_decide_eq_true rfl⟩ | exact ⟨by omega, by omega⟩)); conv => whnf)
  rw [empty_app]
  exact h
theorem join_str {o c t : Str} (ho : o.length ≤ 1000) (hc : c.length ≤ 1000) (ht : t.length ≤ 1000) (h : kd (.str (rowT (.join o c t)))) : sm_Join___str__ [rowO (.join o c t)] kd kx := by
  have hs := sizeLine_eq
  unfold sm_Join___str__
  refine ⟨rfl, ?_⟩
  conv => whnf
  repeat ((with_reducible refine And.intro ?_ ?_); (focus (first | omega | rfl | exact True.intro | exact ⟨rfl, rfl⟩ | exact .inl rfl | exact of_decide_eq_true rfl | exact ⟨rfl, of_decide_eq_true rfl⟩ | decide | assumption | exact .inl ⟨of_decide_eq_true rfl, of_decide_eq_true rfl⟩ | exact .inr ⟨of_decide_eq_true rfl, of_decide_eq_true rfl⟩ | exact ⟨by omega, by omega⟩)); conv => whnf)
  refine ⟨by simp only [empty_app, Str.length_append, c_run, c_lead, c_join, c_to, c_sp, c_alw]; omega, ?_⟩
  conv => whnf
  repeat ((with_reducible refine And.intro ?_ ?_); (focus (first | omega | rfl | exact True.intro | exact ⟨rfl, rfl⟩ | exact .inl rfl | exact of_decide_eq_true rfl | exact ⟨rfl, of_decide_eq_true rfl⟩ | decide | assumption | exact .inl ⟨of_decide_eq_true rfl, of_decide_eq_true rfl⟩ | exact .inr ⟨of_decide_eq_true rfl, of_decide_eq_true rfl⟩ | exact ⟨by omega, by omega⟩)); conv => whnf)
  refine ⟨by simp only [empty_app, Str.length_append, c_run, c_lead, c_join, c_to, c_sp, c_alw]; omega, ?_⟩
  conv => whnf
  repeat ((with_reducible refine And.intro ?_ ?_); (focus (first | omega | rfl | exact True.intro | exact ⟨rfl, rfl⟩ | exact .inl rfl | exact of_decide_eq_true rfl | exact ⟨rfl, of_decide_eq_true rfl⟩ | decide | assumption | exact .inl ⟨of_decide_eq_true rfl, of_decide_eq_true rfl⟩ | exact .inr ⟨of_decide_eq_true rfl, of_decide_eq_true rfl⟩ | exact ⟨by omega, by omega⟩)); conv => whnf)
  refine ⟨by simp only [empty_app, Str.length_append, c_run, c_lead, c_join, c_to, c_sp, c_alw]; omega, ?_⟩
  conv => whnf
  repeat ((with_reducible refine And.intro ?_ ?_); (focus (first | omega | rfl | exact True.intro | exact ⟨rfl, rfl⟩ | exact .inl rfl | exact of_decide_eq_true rfl | exact ⟨rfl, of_decide_eq_true rfl⟩ | decide | assumption | exact .inl ⟨of_decide_eq_true rfl, of_decide_eq_true rfl⟩ | exact .inr ⟨of_decide_eq_true rfl, of_decide_eq_true rfl⟩ | exact ⟨by omega, by omega⟩)); conv => whnf)
  refine ⟨by simp only [empty_app, Str.length_append, c_run, c_lead, c_join, c_to, c_sp, c_alw]; omega, ?_⟩
  conv => whnf
  repeat ((with_reducible refine And.intro ?_ ?_); (focus (first | omega | rfl | exact True.intro | exact ⟨rfl, rfl⟩ | exact .inl rfl | exact of_decide_eq_true rfl | exact ⟨rfl, of_decide_eq_true rfl⟩ | decide | assumption | exact .inl ⟨of_decide_eq_true rfl, of_decide_eq_true rfl⟩ | exact .inr ⟨of_decide_eq_true rfl, of_decide_eq_true rfl⟩ | exact ⟨by omega, by omega⟩)); conv => whnf)
  refine ⟨by simp only [empty_app, Str.length_append, c_run, c_lead, c_join, c_to, c_sp, c_alw]; omega, ?_⟩
  conv => whnf
  repeat ((with_reducible refine And.intro ?_ ?_); (focus (first | omega | rfl | exact True.intro | exact ⟨rfl, rfl⟩ | exact .inl rfl | exact of_decide_eq_true rfl | exact ⟨rfl, of_decide_eq_true rfl⟩ | decide | assumption | exact .inl ⟨of_decide_eq_true rfl, of_decide_eq_true rfl⟩ | exact .inr ⟨of_decide_eq_true rfl, of_decide_eq_true rfl⟩ | exact ⟨by omega, by omega⟩)); conv => whnf)
  rw [empty_app]
  exact h
theorem txts_map (zs : List Str) : txts (zs.map D.str) = some zs := by
  induction zs with
  | nil => rfl
  | cons z zs ih =>
    show (txts (zs.map D.str)).map (z :: ·) = _
    rw [ih]; rfl
theorem lead_str {ts : List Str} {o t : Str} (hts : (ts.map (·.length)).sum + ts.length * 5 ≤ 1000) (ha : (askedS ts).length ≤ 1000) (ho : o.length ≤ 1000) (ht : t.length ≤ 1000) (h : kd (.str (rowT (.lead ts o t)))) : sm_Lead___str__ [rowO (.lead ts o t)] kd kx := by
  have hs := sizeLine_eq
  unfold sm_Lead___str__
  refine ⟨rfl, ?_⟩
  refine seq_cut 1 (fun ρ => ρ = [some (.fr (rowO (.lead ts o t))), some (.fr (.str (askedS ts)))]) ?_ ?_
  · intro kk hk
    cases ts with
    | nil =>
      conv => whnf
      repeat ((with_reducible refine And.intro ?_ ?_); (focus (first | omega | rfl | exact True.intro | exact ⟨rfl, rfl⟩ | exact .inl rfl | exact of_decide_eq_true rfl | exact ⟨rfl, of_decide_eq_true rfl⟩ | decide | assumption | exact .inl ⟨of_decide_eq_true rfl, of_decide_eq_true rfl⟩ | exact .inr ⟨of_decide_eq_true rfl, of_decide_eq_true rfl⟩ | exact ⟨by omega, by omega⟩)); conv => whnf)
      exact hk _ rfl
    | cons y ys =>
      conv => whnf
      repeat ((with_reducible refine And.intro ?_ ?_); (focus (first | omega | rfl | exact True.intro | exact ⟨rfl, rfl⟩ | exact .inl rfl | exact of_decide_eq_true rfl | exact ⟨rfl, of_decide_eq_true rfl⟩ | decide | assumption | exact .inl ⟨of_decide_eq_true rfl, of_decide_eq_true rfl⟩ | exact .inr ⟨of_decide_eq_true rfl, of_decide_eq_true rfl⟩ | exact ⟨by omega, by omega⟩)); conv => whnf)
      refine ite_t (decide_eq_true (by simp [itsOf])) ?_
      conv => whnf
      repeat ((with_reducible refine And.intro ?_ ?_); (focus (first | omega | rfl | exact True.intro | exact ⟨rfl, rfl⟩ | exact .inl rfl | exact of_decide_eq_true rfl | exact ⟨rfl, of_decide_eq_true rfl⟩ | decide | assumption | exact .inl ⟨of_decide_eq_true rfl, of_decide_eq_true rfl⟩ | exact .inr ⟨of_decide_eq_true rfl, of_decide_eq_true rfl⟩ | exact ⟨by omega, by omega⟩)); conv => whnf)
      rw [show txts (itsOf (D.tup (List.map D.str (y :: ys)))) = some (y :: ys) from txts_map _]
      conv => whnf
      repeat ((with_reducible refine And.intro ?_ ?_); (focus (first | omega | rfl | exact True.intro | exact ⟨rfl, rfl⟩ | exact .inl rfl | exact of_decide_eq_true rfl | exact ⟨rfl, of_decide_eq_true rfl⟩ | decide | assumption | exact .inl ⟨of_decide_eq_true rfl, of_decide_eq_true rfl⟩ | exact .inr ⟨of_decide_eq_true rfl, of_decide_eq_true rfl⟩ | exact ⟨by omega, by omega⟩)); conv => whnf)
      refine ⟨by show _ + _ * 5 ≤ 16777216; omega, ?_⟩
      conv => whnf
      repeat ((with_reducible refine And.intro ?_ ?_); (focus (first | omega | rfl | exact True.intro | exact ⟨rfl, rfl⟩ | exact .inl rfl | exact of_decide_eq_true rfl | exact ⟨rfl, of_decide_eq_true rfl⟩ | decide | assumption | exact .inl ⟨of_decide_eq_true rfl, of_decide_eq_true rfl⟩ | exact .inr ⟨of_decide_eq_true rfl, of_decide_eq_true rfl⟩ | exact ⟨by omega, by omega⟩)); conv => whnf)
      exact hk _ rfl
  · rintro ρ rfl
    conv => whnf
    repeat ((with_reducible refine And.intro ?_ ?_); (focus (first | omega | rfl | exact True.intro | exact ⟨rfl, rfl⟩ | exact .inl rfl | exact of_decide_eq_true rfl | exact ⟨rfl, of_decide_eq_true rfl⟩ | decide | assumption | exact .inl ⟨of_decide_eq_true rfl, of_decide_eq_true rfl⟩ | exact .inr ⟨of_decide_eq_true rfl, of_decide_eq_true rfl⟩ | exact ⟨by omega, by omega⟩)); conv => whnf)
    refine ⟨by simp only [empty_app, Str.length_append, c_run, c_lead, c_join, c_to, c_sp, c_alw]; omega, ?_⟩
    conv => whnf
    repeat ((with_reducible refine And.intro ?_ ?_); (focus (first | omega | rfl | exact True.intro | exact ⟨rfl, rfl⟩ | exact .inl rfl | exact of_decide_eq_true rfl | exact ⟨rfl, of_decide_eq_true rfl⟩ | decide | assumption | exact .inl ⟨of_decide_eq_true rfl, of_decide_eq_true rfl⟩ | exact .inr ⟨of_decide_eq_true rfl, of_decide_eq_true rfl⟩ | exact ⟨by omega, by omega⟩)); conv => whnf)
    refine ⟨by simp only [empty_app, Str.length_append, c_run, c_lead, c_join, c_to, c_sp, c_alw]; omega, ?_⟩
    conv => whnf
    repeat ((with_reducible refine And.intro ?_ ?_); (focus (first | omega | rfl | exact True.intro | exact ⟨rfl, rfl⟩ | exact .inl rfl | exact of_decide_eq_true rfl | exact ⟨rfl, of_decide_eq_true rfl⟩ | decide | assumption | exact .inl ⟨of_decide_eq_true rfl, of_decide_eq_true rfl⟩ | exact .inr ⟨of_decide_eq_true rfl, of_decide_eq_true rfl⟩ | exact ⟨by omega, by omega⟩)); conv => whnf)
    refine ⟨by simp only [empty_app, Str.length_append, c_run, c_lead, c_join, c_to, c_sp, c_alw]; omega, ?_⟩
    conv => whnf
    repeat ((with_reducible refine And.intro ?_ ?_); (focus (first | omega | rfl | exact True.intro | exact ⟨rfl, rfl⟩ | exact .inl rfl | exact of_decide_eq_true rfl | exact ⟨rfl, of_decide_eq_true rfl⟩ | decide | assumption | exact .inl ⟨of_decide_eq_true rfl, of_decide_eq_true rfl⟩ | exact .inr ⟨of_decide_eq_true rfl, of_decide_eq_true rfl⟩ | exact ⟨by omega, by omega⟩)); conv => whnf)
    refine ⟨by simp only [empty_app, Str.length_append, c_run, c_lead, c_join, c_to, c_sp, c_alw]; omega, ?_⟩
    conv => whnf
    repeat ((with_reducible refine And.intro ?_ ?_); (focus (first | omega | rfl | exact True.intro | exact ⟨rfl, rfl⟩ | exact .inl rfl | exact of_decide_eq_true rfl | exact ⟨rfl, of_decide_eq_true rfl⟩ | decide | assumption | exact .inl ⟨of_decide_eq_true rfl, of_decide_eq_true rfl⟩ | exact .inr ⟨of_decide_eq_true rfl, of_decide_eq_true rfl⟩ | exact ⟨by omega, by omega⟩)); conv => whnf)
    refine ⟨by simp only [empty_app, Str.length_append, c_run, c_lead, c_join, c_to, c_sp, c_alw]; omega, ?_⟩
    conv => whnf
    repeat ((with_reducible refine And.intro ?_ ?_); (focus (first | omega | rfl | exact True.intro | exact ⟨rfl, rfl⟩ | exact .inl rfl | exact of_decide_eq_true rfl | exact ⟨rfl, of_decide_eq_true rfl⟩ | decide | assumption | exact .inl ⟨of_decide_eq_true rfl, of_decide_eq_true rfl⟩ | exact .inr ⟨of_decide_eq_true rfl, of_decide_eq_true rfl⟩ | exact ⟨by omega, by omega⟩)); conv => whnf)
    rw [empty_app]
    exact h
theorem str_t {r : Rw} {kd : D → Prop} {kx : DX → Prop} (hb : (rowT r).length ≤ 1000) (hts : ∀ ts o t, r = .lead ts o t → (ts.map (·.length)).sum + ts.length * 5 ≤ 1000) (h : kd (.str (rowT r))) :
    (match r with | .run _ _ => sm_Run___str__ | .lead _ _ _ => sm_Lead___str__ | .join _ _ _ => sm_Join___str__) [rowO r] kd kx := by
  cases r with
  | run o t =>
    unfold rowT at hb
    simp only [Str.length_append, c_run, c_to] at hb
    exact run_str (by omega) (by omega) h
  | lead ts o t =>
    unfold rowT at hb
    simp only [Str.length_append, c_lead, c_to, c_sp] at hb
    exact lead_str (hts ts o t rfl) (by omega) (by omega) (by omega) h
  | join o c t =>
    unfold rowT at hb
    simp only [Str.length_append, c_join, c_to, c_sp] at hb
    exact join_str (by omega) (by omega) (by omega) h
end
end Lw

set_option Elab.async false
set_option linter.all false
set_option maxRecDepth 100000
set_option maxHeartbeats 0
set_option pp.maxSteps 400
namespace Lw
open PySem PySem.Spec PyProof.Rows L2 DL
/-- short enough -/
structure Sho (r : Rw) : Prop where
  len : (rowT r).length ≤ 1000
  ts : ∀ ts o t, r = .lead ts o t → (ts.map (·.length)).sum + ts.length * 5 ≤ 1000
section
variable {kd : D → Prop} {kx : DX → Prop}
theorem eq_t {r r' : Rw} (h1 : Sho r) (h2 : Sho r') (h : kd (.bl (decide (rowT r = rowT r')))) : sm_Row___eq__ [rowO r, rowO r'] kd kx := by
  have a1 := fun {kd : D → Prop} => str_t (kd := kd) (kx := kx) h1.len h1.ts
  have a2 := fun {kd : D → Prop} => str_t (kd := kd) (kx := kx) h2.len h2.ts
  unfold sm_Row___eq__
  refine ⟨rfl, ?_⟩
  cases r <;> cases r'
  all_goals
    conv => whnf
    repeat ((with_reducible refine And.intro ?_ ?_); (focus (first | omega | rfl | exact True.intro | exact ⟨rfl, rfl⟩ | exact .inl rfl | exact of_decide_eq_true rfl | exact ⟨rfl, of_decide_eq_true rfl⟩ | decide | assumption | exact .inl ⟨of_decide_eq_true rfl, of_decide_eq_true rfl⟩ | exact .inr ⟨of_decide_eq_true rfl, of_decide_eq_true rfl⟩ | exact ⟨by omega, by omega⟩)); conv => whnf)
    refine a1 ?_
    conv => whnf
    repeat ((with_reducible refine And.intro ?_ ?_); (focus (first | omega | rfl | exact True.intro | exact ⟨rfl, rfl⟩ | exact .inl rfl | exact of_decide_eq_true rfl | exact ⟨rfl, of_decide_eq_true rfl⟩ | decide | assumption | exact .inl ⟨of_decide_eq_true rfl, of_decide_eq_true rfl⟩ | exact .inr ⟨of_decide_eq_true rfl, of_decide_eq_true rfl⟩ | exact ⟨by omega, by omega⟩)); conv => whnf)
    refine a2 ?_
    conv => whnf
    repeat ((with_reducible refine And.intro ?_ ?_); (focus (first | omega | rfl | exact True.intro | exact ⟨rfl, rfl⟩ | exact .inl rfl | exact of_decide_eq_true rfl | exact ⟨rfl, of_decide_eq_true rfl⟩ | decide | assumption | exact .inl ⟨of_decide_eq_true rfl, of_decide_eq_true rfl⟩ | exact .inr ⟨of_decide_eq_true rfl, of_decide_eq_true rfl⟩ | exact ⟨by omega, by omega⟩)); conv => whnf)
    exact h
theorem eq_no {r : Rw} {d : D} (hd : topD d = true) (h : kd (.bl false)) : sm_Row___eq__ [rowO r, d] kd kx := by
  unfold sm_Row___eq__
  refine ⟨rfl, ?_⟩
  cases d with
  | str z =>
    conv => whnf
    repeat ((with_reducible refine And.intro ?_ ?_); (focus (first | omega | rfl | exact True.intro | exact ⟨rfl, rfl⟩ | exact .inl rfl | exact of_decide_eq_true rfl | exact ⟨rfl, of_decide_eq_true rfl⟩ | decide | assumption | exact .inl ⟨of_decide_eq_true rfl, of_decide_eq_true rfl⟩ | exact .inr ⟨of_decide_eq_true rfl, of_decide_eq_true rfl⟩ | exact ⟨by omega, by omega⟩)); conv => whnf)
    exact h
  | non =>
    conv => whnf
    repeat ((with_reducible refine And.intro ?_ ?_); (focus (first | omega | rfl | exact True.intro | exact ⟨rfl, rfl⟩ | exact .inl rfl | exact of_decide_eq_true rfl | exact ⟨rfl, of_decide_eq_true rfl⟩ | decide | assumption | exact .inl ⟨of_decide_eq_true rfl, of_decide_eq_true rfl⟩ | exact .inr ⟨of_decide_eq_true rfl, of_decide_eq_true rfl⟩ | exact ⟨by omega, by omega⟩)); conv => whnf)
    exact h
  | bl _ =>
    conv => whnf
    repeat ((with_reducible refine And.intro ?_ ?_); (focus (first | omega | rfl | exact True.intro | exact ⟨rfl, rfl⟩ | exact .inl rfl | exact of_decide_eq_true rfl | exact ⟨rfl, of_decide_eq_true rfl⟩ | decide | assumption | exact .inl ⟨of_decide_eq_true rfl, of_decide_eq_true rfl⟩ | exact .inr ⟨of_decide_eq_true rfl, of_decide_eq_true rfl⟩ | exact ⟨by omega, by omega⟩)); conv => whnf)
    exact h
  | int _ =>
    conv => whnf
    repeat ((with_reducible refine And.intro ?_ ?_); (focus (first | omega | rfl | exact True.intro | exact ⟨rfl, rfl⟩ | exact .inl rfl | exact of_decide_eq_true rfl | exact ⟨rfl, of_decide_eq_true rfl⟩ | decide | assumption | exact .inl ⟨of_decide_eq_true rfl, of_decide_eq_true rfl⟩ | exact .inr ⟨of_decide_eq_true rfl, of_decide_eq_true rfl⟩ | exact ⟨by omega, by omega⟩)); conv => whnf)
    exact h
  | lst _ =>
    conv => whnf
    repeat ((with_reducible refine And.intro ?_ ?_); (focus (first | omega | rfl | exact True.intro | exact ⟨rfl, rfl⟩ | exact .inl rfl | exact of_decide_eq_true rfl | exact ⟨rfl, of_decide_eq_true rfl⟩ | decide | assumption | exact .inl ⟨of_decide_eq_true rfl, of_decide_eq_true rfl⟩ | exact .inr ⟨of_decide_eq_true rfl, of_decide_eq_true rfl⟩ | exact ⟨by omega, by omega⟩)); conv => whnf)
    exact h
  | tup _ =>
    conv => whnf
    repeat ((with_reducible refine And.intro ?_ ?_); (focus (first | omega | rfl | exact True.intro | exact ⟨rfl, rfl⟩ | exact .inl rfl | exact of_decide_eq_true rfl | exact ⟨rfl, of_decide_eq_true rfl⟩ | decide | assumption | exact .inl ⟨of_decide_eq_true rfl, of_decide_eq_true rfl⟩ | exact .inr ⟨of_decide_eq_true rfl, of_decide_eq_true rfl⟩ | exact ⟨by omega, by omega⟩)); conv => whnf)
    exact h
  | _ => cases hd
/-! ### words of rows -/
def interW : List Str → List Str
  | [] => []
  | [t] => [t]
  | t :: ts => t :: "and" :: interW ts
/-- the words of tests -/
def askW : List Str → List Str
  | [] => ["always"]
  | t :: ts => (interW (t :: ts)).flatMap fun x => Txt.split x " "
def rowW : Rw → List Str
  | .run o t => ["run", o, "to", t]
  | .lead ts o t => "lead" :: (askW ts ++ [o, "to", t])
  | .join h c t => ["join", h, c, "to", t]
def tests6 : List Str := ["above", "not above", "own", "not own", "below", "not below"]
def wokB (w : Str) : Bool := decide (w.length ≤ 20) && (PyData.canLay0 (.str w) && decide ((32 : Nat) ∉ TL.tl w))
theorem wok_of {w : Str} (h : wokB w = true) : Wok w := by
  obtain ⟨h1, h2⟩ := Bool.and_eq_true_iff.mp h
  obtain ⟨h2, h3⟩ := Bool.and_eq_true_iff.mp h2
  exact ⟨of_decide_eq_true h1, h2, of_decide_eq_true h3⟩
/-- what is wanted of tests -/
structure TsP (ts : List Str) : Prop where
  j1 : Txt.join " " (askW ts) = askedS ts
  j2 : ts ≠ [] → askedS ts ≠ "always"
  sp : ts ≠ [] → Txt.split (askedS ts) " and " = ts
  wk : ∀ w ∈ askW ts, Wok w
  ne : askW ts ≠ []
  le : (askW ts).length ≤ 8
  tb : testsB (.lst (ts.map D.str)) = true
  sz : (ts.map (·.length)).sum + ts.length * 5 ≤ 100
  al : (askedS ts).length ≤ 100
def tsPB (ts : List Str) : Bool := decide (Txt.join " " (askW ts) = askedS ts) && (decide (ts = [] ∨ askedS ts ≠ "always") && (decide (ts = [] ∨ Txt.split (askedS ts) " and " = ts) && ((askW ts).all wokB && (decide (askW ts ≠ []) &&
  (decide ((askW ts).length ≤ 8) && (decide ((ts.map (·.length)).sum + ts.length * 5 ≤ 100) && (decide ((askedS ts).length ≤ 100) && (ts.map D.str).all testB)))))))
theorem tsP_of {ts : List Str} (h : tsPB ts = true) (nd : (ts.map partS).Nodup) : TsP ts := by
  unfold tsPB at h
  simp only [Bool.and_eq_true, decide_eq_true_eq] at h
  obtain ⟨h1, h2, h3, h4, h5, h6, h7, h8, h9⟩ := h
  refine ⟨h1, fun e => h2.resolve_left e, fun e => h3.resolve_left e, fun w hw => wok_of (List.all_eq_true.mp h4 w hw), h5, h6, ?_, h7, h8⟩
  show ((ts.map D.str).all testB && decide _) = true
  rw [h9]
  refine decide_eq_true ?_
  show ((ts.map D.str).map fun x => partS (strOf x)).Nodup
  rw [List.map_map]
  exact nd
def ndB (ts : List Str) : Bool := decide (ts.map partS).Nodup
theorem tsPB_0 : tsPB [] = true := by decide +kernel
theorem tsPB_1 : (tests6.all fun a => tsPB [a]) = true := by decide +kernel
theorem tsPB_2 : (tests6.all fun a => tests6.all fun b => !ndB [a, b] || tsPB [a, b]) = true := by decide +kernel
theorem tsPB_3 : (tests6.all fun a => tests6.all fun b => tests6.all fun c => !ndB [a, b, c] || tsPB [a, b, c]) = true := by decide +kernel
theorem part6 : ∀ a ∈ tests6, partS a ∈ partsL := by decide +kernel
theorem nodup_le {α : Type} [DecidableEq α] : ∀ {l m : List α}, l.Nodup → (∀ x ∈ l, x ∈ m) → l.length ≤ m.length
  | [], m, _, _ => Nat.zero_le _
  | a :: l, m, nd, h => by
    have nd := List.nodup_cons.mp nd
    have ha := h a (List.mem_cons_self ..)
    have := nodup_le (l := l) (m := m.erase a) nd.2 fun x hx => (List.mem_erase_of_ne (fun e => nd.1 (by rw [← e]; exact hx))).mpr (h x (List.mem_cons_of_mem _ hx))
    rw [List.length_erase_of_mem ha] at this
    have : 0 < m.length := List.length_pos_of_mem ha
    simp
    omega
/-- all tests are as they are wanted -/
theorem tsP {ts : List Str} (h : ∀ t ∈ ts, t ∈ tests6) (nd : (ts.map partS).Nodup) : TsP ts := by
  have hl : ts.length ≤ 3 := by
    have := nodup_le nd (m := partsL) fun x hx => by
      obtain ⟨t, ht, rfl⟩ := List.mem_map.mp hx
      exact part6 t (h t ht)
    rw [List.length_map] at this
    exact this
  refine tsP_of ?_ nd
  match ts, h, nd, hl with
  | [], _, _, _ => exact tsPB_0
  | [a], h, _, _ => exact List.all_eq_true.mp tsPB_1 a (h a (by simp))
  | [a, b], h, nd, _ =>
    have := List.all_eq_true.mp (List.all_eq_true.mp tsPB_2 a (h a (by simp))) b (h b (by simp))
    have hn : ndB [a, b] = true := decide_eq_true nd
    rw [hn] at this
    simpa using this
  | [a, b, c], h, nd, _ =>
    have := List.all_eq_true.mp (List.all_eq_true.mp (List.all_eq_true.mp tsPB_3 a (h a (by simp))) b (h b (by simp))) c (h c (by simp))
    have hn : ndB [a, b, c] = true := decide_eq_true nd
    rw [hn] at this
    simpa using this
  | _ :: _ :: _ :: _ :: _, _, _, hl => simp at hl
theorem te6 : ∀ b : Bool, ∀ p ∈ partsL, teS (b, p) ∈ tests6 ∧ partS (teS (b, p)) = p := by decide +kernel
/-- drawn tests -/
theorem tsP_te {ts : List Te} (h : TsOk ts) : TsP (ts.map teS) ∧ ∀ t ∈ ts.map teS, t ∈ tests6 := by
  have h1 : ∀ t ∈ ts.map teS, t ∈ tests6 := fun t ht => by
    obtain ⟨⟨b, p⟩, hx, rfl⟩ := List.mem_map.mp ht
    exact (te6 b p (h.mem _ hx)).1
  refine ⟨tsP h1 ?_, h1⟩
  have e : (ts.map teS).map partS = ts.map (·.2) := by
    rw [List.map_map]
    refine List.map_congr_left fun x hx => ?_
    obtain ⟨b, p⟩ := x
    exact (te6 b p (h.mem _ hx)).2
  rw [e]
  exact h.nd
end
end Lw

set_option Elab.async false
set_option linter.all false
set_option maxRecDepth 100000
set_option maxHeartbeats 0
set_option pp.maxSteps 400
namespace Lw
open PySem PySem.Spec PyProof.Rows L2 DL
theorem tl_tjoin (y : Str) (parts : List Str) : TL.tl (Txt.join y parts) = TL.joinL (TL.tl y) (parts.map TL.tl) := by
  unfold Txt.join
  rw [StrLaws.glued_eq_join, TL.tl_join]
theorem joinL_app (s : List Nat) : ∀ {l r : List (List Nat)}, l ≠ [] → r ≠ [] → TL.joinL s (l ++ r) = TL.joinL s l ++ s ++ TL.joinL s r
  | [], _, h, _ => absurd rfl h
  | [a], [], _, h => absurd rfl h
  | [a], b :: r, _, _ => by
    show a ++ (s ++ TL.joinL s (b :: r)) = a ++ s ++ TL.joinL s (b :: r)
    simp
  | a :: b :: l, r, _, h => by
    have := joinL_app s (l := b :: l) (r := r) (by simp) h
    show a ++ (s ++ TL.joinL s ((b :: l) ++ r)) = (a ++ (s ++ TL.joinL s (b :: l))) ++ s ++ TL.joinL s r
    rw [this]
    simp
theorem rowT_join {r : Rw} (h : ∀ ts o t, r = .lead ts o t → TsP ts) : Txt.join " " (rowW r) = rowT r := by
  refine TL.ext_tl ?_
  rw [tl_tjoin]
  have e1 : TL.tl ((" " : String) : Str) = [32] := rfl
  have e2 : TL.tl ((" to " : String) : Str) = [32] ++ TL.tl (("to" : String) : Str) ++ [32] := rfl
  have e3 : TL.tl (("run " : String) : Str) = TL.tl (("run" : String) : Str) ++ [32] := rfl
  have e4 : TL.tl (("join " : String) : Str) = TL.tl (("join" : String) : Str) ++ [32] := rfl
  have e5 : TL.tl (("lead " : String) : Str) = TL.tl (("lead" : String) : Str) ++ [32] := rfl
  cases r with
  | run o t =>
    unfold rowT
    simp only [TL.tl_append, e1, e2, e3]
    simp [TL.joinL, rowW]
  | join a b t =>
    unfold rowT
    simp only [TL.tl_append, e1, e2, e4]
    simp [TL.joinL, rowW]
  | lead ts o t =>
    have p := h ts o t rfl
    have hj := congrArg TL.tl p.j1
    rw [tl_tjoin, e1] at hj
    unfold rowT
    simp only [TL.tl_append, e1, e2, e5, ← hj]
    unfold rowW
    rw [List.map_cons, List.map_append]
    have hne : (askW ts).map TL.tl ≠ [] := by simpa using p.ne
    have := joinL_app [32] (l := [TL.tl (("lead" : String) : Str)]) (r := (askW ts).map TL.tl ++ [o, (("to" : String) : Str), t].map TL.tl) (by simp) (by simp)
    have e7 := joinL_app [32] (l := (askW ts).map TL.tl) (r := [o, (("to" : String) : Str), t].map TL.tl) hne (by simp)
    show TL.joinL [32] ([TL.tl (("lead" : String) : Str)] ++ ((askW ts).map TL.tl ++ [o, (("to" : String) : Str), t].map TL.tl)) = _
    rw [this, e7]
    simp [TL.joinL]
/-- good rows -/
structure RwOk (r : Rw) : Prop where
  ld : ∀ ts o t, r = .lead ts o t → TsP ts
  ol : match r with
    | .run o t => oldB (.str o) = true ∧ nmB (.str t) = true
    | .lead _ o t => oldB (.str o) = true ∧ nmB (.str t) = true
    | .join a b t => oldB (.str a) = true ∧ oldB (.str b) = true ∧ joinB (.str t) = true
theorem split_row {r : Rw} (h : ∀ ts o t, r = .lead ts o t → TsP ts) (hw : ∀ w ∈ rowW r, Wok w) : Txt.split (rowT r) " " = rowW r := by
  rw [← rowT_join h]
  refine split_blank ?_ hw
  cases r <;> exact fun e => by cases e
theorem sum_le {l : List Str} (h : ∀ w ∈ l, w.length ≤ 20) : (l.map fun x => x.length).sum ≤ 20 * l.length := by
  induction l with
  | nil => exact Nat.le_refl _
  | cons a l ih =>
    have h1 := ih fun w hw => h w (List.mem_cons_of_mem _ hw)
    have h2 := h a (List.mem_cons_self ..)
    simp only [List.map_cons, List.sum_cons, List.length_cons]
    omega
theorem sIx_neg {n d k : Nat} (h : 0 < k) : HT.sIx n d (some (-(k : Int))) = n - k := by
  show (if -(k : Int) < 0 then (-(k : Int) + (n : Int)).toNat else min (-(k : Int)).toNat n) = n - k
  rw [if_pos (by omega)]
  omega
theorem atI_neg {α : Type} {xs : List α} {k : Nat} (h0 : 0 < k) (h1 : k ≤ xs.length) : atI xs (-(k : Int)) = xs[xs.length - k]? := by
  unfold atI ixN
  rw [if_neg (by omega), if_pos (by omega)]
  show xs[_]? = _
  congr 1
  omega
section
variable {kd : D → Prop} {kx : DX → Prop}
theorem row_in_run {o t : Str} (ho : topD (.str o) = true) (ht : topD (.str t) = true) (bo : oldB (.str o) = true) (bt : nmB (.str t) = true) (h : kd (rowO (.run o t))) : sm_row_in [.lst ((rowW (.run o t)).map D.str)] kd kx := by
  unfold sm_row_in
  refine ⟨rfl, ?_⟩
  conv => whnf
  repeat ((with_reducible refine And.intro ?_ ?_); (focus (first | omega | rfl | exact True.intro | exact ⟨rfl, rfl⟩ | exact .inl rfl | exact of_decide_eq_true rfl | exact ⟨rfl, of_decide_eq_true rfl⟩ | decide | assumption | exact .inl ⟨of_decide_eq_true rfl, of_decide_eq_true rfl⟩ | exact .inr ⟨of_decide_eq_true rfl, of_decide_eq_true rfl⟩ | exact ⟨by omega, by omega⟩)); conv => whnf)
  refine run_g ho ht bo bt ?_
  conv => whnf
  repeat ((with_reducible refine And.intro ?_ ?_); (focus (first | omega | rfl | exact True.intro | exact ⟨rfl, rfl⟩ | exact .inl rfl | exact of_decide_eq_true rfl | exact ⟨rfl, of_decide_eq_true rfl⟩ | decide | assumption | exact .inl ⟨of_decide_eq_true rfl, of_decide_eq_true rfl⟩ | exact .inr ⟨of_decide_eq_true rfl, of_decide_eq_true rfl⟩ | exact ⟨by omega, by omega⟩)); conv => whnf)
  exact h
theorem row_in_join {a b t : Str} (ha : topD (.str a) = true) (hb : topD (.str b) = true) (ht : topD (.str t) = true) (ba : oldB (.str a) = true) (bb : oldB (.str b) = true) (bt : joinB (.str t) = true) (h : kd (rowO (.join a b t))) : sm_row_in [.lst ((rowW (.join a b t)).map D.str)] kd kx := by
  unfold sm_row_in
  refine ⟨rfl, ?_⟩
  conv => whnf
  repeat ((with_reducible refine And.intro ?_ ?_); (focus (first | omega | rfl | exact True.intro | exact ⟨rfl, rfl⟩ | exact .inl rfl | exact of_decide_eq_true rfl | exact ⟨rfl, of_decide_eq_true rfl⟩ | decide | assumption | exact .inl ⟨of_decide_eq_true rfl, of_decide_eq_true rfl⟩ | exact .inr ⟨of_decide_eq_true rfl, of_decide_eq_true rfl⟩ | exact ⟨by omega, by omega⟩)); conv => whnf)
  refine join_g ha hb ht ba bb bt ?_
  conv => whnf
  repeat ((with_reducible refine And.intro ?_ ?_); (focus (first | omega | rfl | exact True.intro | exact ⟨rfl, rfl⟩ | exact .inl rfl | exact of_decide_eq_true rfl | exact ⟨rfl, of_decide_eq_true rfl⟩ | decide | assumption | exact .inl ⟨of_decide_eq_true rfl, of_decide_eq_true rfl⟩ | exact .inr ⟨of_decide_eq_true rfl, of_decide_eq_true rfl⟩ | exact ⟨by omega, by omega⟩)); conv => whnf)
  exact h
theorem row_in_lead {ts : List Str} {o t : Str} (p : TsP ts) (hi : ∀ x ∈ ts, topD (.str x) = true) (ho : topD (.str o) = true) (ht : topD (.str t) = true) (bo : oldB (.str o) = true) (bt : nmB (.str t) = true) (h : kd (rowO (.lead ts o t))) : sm_row_in [.lst ((rowW (.lead ts o t)).map D.str)] kd kx := by
  have hs := sizeLine_eq
  have hle := p.le
  have hne : 0 < (askW ts).length := List.length_pos_iff.mpr p.ne
  have e : (rowW (.lead ts o t)).map D.str = D.str "lead" :: ((askW ts).map D.str ++ [.str o, .str "to", .str t]) := by
    unfold rowW
    rw [List.map_cons, List.map_append]; rfl
  rw [e]
  have hlen : (D.str "lead" :: ((askW ts).map D.str ++ [.str o, .str "to", .str t])).length = (askW ts).length + 4 := by simp
  have h0 : atI (D.str "lead" :: ((askW ts).map D.str ++ [.str o, .str "to", .str t])) 0 = some (.str "lead") := by
    rw [atI_nat (by decide) (by rw [hlen]; omega)]; rfl
  have h3 : atI (D.str "lead" :: ((askW ts).map D.str ++ [.str o, .str "to", .str t])) (-3) = some (.str o) := by
    show atI _ (-((3 : Nat) : Int)) = _
    rw [atI_neg (by decide) (by rw [hlen]; omega), hlen]
    rw [show ((askW ts).length + 4) - (3 : Nat) = ((askW ts).map D.str).length + 1 by simp]
    rw [List.getElem?_cons_succ, List.getElem?_append_right (Nat.le_refl _)]
    simp
  have h1 : atI (D.str "lead" :: ((askW ts).map D.str ++ [.str o, .str "to", .str t])) (-1) = some (.str t) := by
    show atI _ (-((1 : Nat) : Int)) = _
    rw [atI_neg (by decide) (by rw [hlen]; omega), hlen]
    rw [show ((askW ts).length + 4) - (1 : Nat) = (((askW ts).map D.str).length + 2) + 1 by simp]
    rw [List.getElem?_cons_succ, List.getElem?_append_right (by omega)]
    simp
  have hc : cutL (D.str "lead" :: ((askW ts).map D.str ++ [.str o, .str "to", .str t])) (some 1) (some (-3)) = (askW ts).map D.str := by
    unfold cutL
    rw [hlen]
    show ((D.str "lead" :: _).drop (HT.sIx _ 0 (some ((1 : Nat) : Int)))).take (HT.sIx _ _ (some (-((3 : Nat) : Int))) - HT.sIx _ 0 (some ((1 : Nat) : Int))) = _
    rw [HT.sIx_nat, sIx_neg (by decide), show min 1 ((askW ts).length + 4) = 1 by omega, show (askW ts).length + 4 - 3 - 1 = ((askW ts).map D.str).length by simp]
    show (((askW ts).map D.str ++ _)).take _ = _
    rw [List.take_left]
  generalize hg : (D.str "lead" :: ((askW ts).map D.str ++ [.str o, .str "to", .str t])) = ws at hlen h0 h1 h3 hc ⊢
  unfold sm_row_in
  refine ⟨rfl, ?_⟩
  conv => whnf
  repeat ((with_reducible refine And.intro ?_ ?_); (focus (first | omega | rfl | exact True.intro | exact ⟨rfl, rfl⟩ | exact .inl rfl | exact of_decide_eq_true rfl | exact ⟨rfl, of_decide_eq_true rfl⟩ | decide | assumption | exact .inl ⟨of_decide_eq_true rfl, of_decide_eq_true rfl⟩ | exact .inr ⟨of_decide_eq_true rfl, of_decide_eq_true rfl⟩ | exact ⟨by omega, by omega⟩)); conv => whnf)
  refine ite_f (by rw [decide_eq_true_eq, hlen]; omega) ?_
  conv => whnf
  repeat ((with_reducible refine And.intro ?_ ?_); (focus (first | omega | rfl | exact True.intro | exact ⟨rfl, rfl⟩ | exact .inl rfl | exact of_decide_eq_true rfl | exact ⟨rfl, of_decide_eq_true rfl⟩ | decide | assumption | exact .inl ⟨of_decide_eq_true rfl, of_decide_eq_true rfl⟩ | exact .inr ⟨of_decide_eq_true rfl, of_decide_eq_true rfl⟩ | exact ⟨by omega, by omega⟩)); conv => whnf)
  rw [h0]
  conv => whnf
  repeat ((with_reducible refine And.intro ?_ ?_); (focus (first | omega | rfl | exact True.intro | exact ⟨rfl, rfl⟩ | exact .inl rfl | exact of_decide_eq_true rfl | exact ⟨rfl, of_decide_eq_true rfl⟩ | decide | assumption | exact .inl ⟨of_decide_eq_true rfl, of_decide_eq_true rfl⟩ | exact .inr ⟨of_decide_eq_true rfl, of_decide_eq_true rfl⟩ | exact ⟨by omega, by omega⟩)); conv => whnf)
  rw [h0]
  conv => whnf
  repeat ((with_reducible refine And.intro ?_ ?_); (focus (first | omega | rfl | exact True.intro | exact ⟨rfl, rfl⟩ | exact .inl rfl | exact of_decide_eq_true rfl | exact ⟨rfl, of_decide_eq_true rfl⟩ | decide | assumption | exact .inl ⟨of_decide_eq_true rfl, of_decide_eq_true rfl⟩ | exact .inr ⟨of_decide_eq_true rfl, of_decide_eq_true rfl⟩ | exact ⟨by omega, by omega⟩)); conv => whnf)
  rw [h0]
  conv => whnf
  repeat ((with_reducible refine And.intro ?_ ?_); (focus (first | omega | rfl | exact True.intro | exact ⟨rfl, rfl⟩ | exact .inl rfl | exact of_decide_eq_true rfl | exact ⟨rfl, of_decide_eq_true rfl⟩ | decide | assumption | exact .inl ⟨of_decide_eq_true rfl, of_decide_eq_true rfl⟩ | exact .inr ⟨of_decide_eq_true rfl, of_decide_eq_true rfl⟩ | exact ⟨by omega, by omega⟩)); conv => whnf)
  refine ite_t (by rw [decide_eq_true_eq, hlen]; omega) ?_
  conv => whnf
  repeat ((with_reducible refine And.intro ?_ ?_); (focus (first | omega | rfl | exact True.intro | exact ⟨rfl, rfl⟩ | exact .inl rfl | exact of_decide_eq_true rfl | exact ⟨rfl, of_decide_eq_true rfl⟩ | decide | assumption | exact .inl ⟨of_decide_eq_true rfl, of_decide_eq_true rfl⟩ | exact .inr ⟨of_decide_eq_true rfl, of_decide_eq_true rfl⟩ | exact ⟨by omega, by omega⟩)); conv => whnf)
  rw [hc, txts_map]
  conv => whnf
  repeat ((with_reducible refine And.intro ?_ ?_); (focus (first | omega | rfl | exact True.intro | exact ⟨rfl, rfl⟩ | exact .inl rfl | exact of_decide_eq_true rfl | exact ⟨rfl, of_decide_eq_true rfl⟩ | decide | assumption | exact .inl ⟨of_decide_eq_true rfl, of_decide_eq_true rfl⟩ | exact .inr ⟨of_decide_eq_true rfl, of_decide_eq_true rfl⟩ | exact ⟨by omega, by omega⟩)); conv => whnf)
  have hsum : ((askW ts).map fun x => x.length).sum + (askW ts).length * (Str.ofString " ").length ≤ 16777216 := by
    have a1 := sum_le fun w hw => (p.wk w hw).len
    have a2 : (Str.ofString " ").length = 1 := rfl
    rw [a2]
    omega
  refine ⟨hsum, ?_⟩
  rw [p.j1]
  have hal := p.al
  have hts := p.tb
  have hi' : ∀ x ∈ itsOf (.lst (ts.map D.str)), topD x = true := fun x hx => by
    obtain ⟨z, hz, rfl⟩ := List.mem_map.mp (show x ∈ ts.map D.str from hx)
    exact hi z hz
  have hlt : (itsOf (.lst (ts.map D.str))).length < 1000000 := by
    show (ts.map D.str).length < _
    have := p.sz
    rw [List.length_map]; omega
  cases ts with
  | nil =>
    conv => whnf
    repeat ((with_reducible refine And.intro ?_ ?_); (focus (first | omega | rfl | exact True.intro | exact ⟨rfl, rfl⟩ | exact .inl rfl | exact of_decide_eq_true rfl | exact ⟨rfl, of_decide_eq_true rfl⟩ | decide | assumption | exact .inl ⟨of_decide_eq_true rfl, of_decide_eq_true rfl⟩ | exact .inr ⟨of_decide_eq_true rfl, of_decide_eq_true rfl⟩ | exact ⟨by omega, by omega⟩)); conv => whnf)
    rw [h3]
    conv => whnf
    repeat ((with_reducible refine And.intro ?_ ?_); (focus (first | omega | rfl | exact True.intro | exact ⟨rfl, rfl⟩ | exact .inl rfl | exact of_decide_eq_true rfl | exact ⟨rfl, of_decide_eq_true rfl⟩ | decide | assumption | exact .inl ⟨of_decide_eq_true rfl, of_decide_eq_true rfl⟩ | exact .inr ⟨of_decide_eq_true rfl, of_decide_eq_true rfl⟩ | exact ⟨by omega, by omega⟩)); conv => whnf)
    rw [h1]
    conv => whnf
    repeat ((with_reducible refine And.intro ?_ ?_); (focus (first | omega | rfl | exact True.intro | exact ⟨rfl, rfl⟩ | exact .inl rfl | exact of_decide_eq_true rfl | exact ⟨rfl, of_decide_eq_true rfl⟩ | decide | assumption | exact .inl ⟨of_decide_eq_true rfl, of_decide_eq_true rfl⟩ | exact .inr ⟨of_decide_eq_true rfl, of_decide_eq_true rfl⟩ | exact ⟨by omega, by omega⟩)); conv => whnf)
    refine lead_g (ts := .lst []) rfl hlt hi' ho ht hts bo bt ?_
    conv => whnf
    repeat ((with_reducible refine And.intro ?_ ?_); (focus (first | omega | rfl | exact True.intro | exact ⟨rfl, rfl⟩ | exact .inl rfl | exact of_decide_eq_true rfl | exact ⟨rfl, of_decide_eq_true rfl⟩ | decide | assumption | exact .inl ⟨of_decide_eq_true rfl, of_decide_eq_true rfl⟩ | exact .inr ⟨of_decide_eq_true rfl, of_decide_eq_true rfl⟩ | exact ⟨by omega, by omega⟩)); conv => whnf)
    exact h
  | cons y ys =>
    have n1 := p.j2 (by simp)
    have n2 := p.sp (by simp)
    conv => whnf
    repeat ((with_reducible refine And.intro ?_ ?_); (focus (first | omega | rfl | exact True.intro | exact ⟨rfl, rfl⟩ | exact .inl rfl | exact of_decide_eq_true rfl | exact ⟨rfl, of_decide_eq_true rfl⟩ | decide | assumption | exact .inl ⟨of_decide_eq_true rfl, of_decide_eq_true rfl⟩ | exact .inr ⟨of_decide_eq_true rfl, of_decide_eq_true rfl⟩ | exact ⟨by omega, by omega⟩)); conv => whnf)
    refine ite_f (by rw [decide_eq_true_eq]; exact n1) ?_
    have b1 : (askedS (y :: ys)).length + 2 ≤ sizeLine := by omega
    conv => whnf
    repeat ((with_reducible refine And.intro ?_ ?_); (focus (first | omega | rfl | exact True.intro | exact ⟨rfl, rfl⟩ | exact .inl rfl | exact of_decide_eq_true rfl | exact ⟨rfl, of_decide_eq_true rfl⟩ | decide | assumption | exact .inl ⟨of_decide_eq_true rfl, of_decide_eq_true rfl⟩ | exact .inr ⟨of_decide_eq_true rfl, of_decide_eq_true rfl⟩ | exact ⟨by omega, by omega⟩)); conv => whnf)
    refine ⟨⟨rfl, b1⟩, ?_⟩
    rw [n2]
    conv => whnf
    repeat ((with_reducible refine And.intro ?_ ?_); (focus (first | omega | rfl | exact True.intro | exact ⟨rfl, rfl⟩ | exact .inl rfl | exact of_decide_eq_true rfl | exact ⟨rfl, of_decide_eq_true rfl⟩ | decide | assumption | exact .inl ⟨of_decide_eq_true rfl, of_decide_eq_true rfl⟩ | exact .inr ⟨of_decide_eq_true rfl, of_decide_eq_true rfl⟩ | exact ⟨by omega, by omega⟩)); conv => whnf)
    rw [h3]
    conv => whnf
    repeat ((with_reducible refine And.intro ?_ ?_); (focus (first | omega | rfl | exact True.intro | exact ⟨rfl, rfl⟩ | exact .inl rfl | exact of_decide_eq_true rfl | exact ⟨rfl, of_decide_eq_true rfl⟩ | decide | assumption | exact .inl ⟨of_decide_eq_true rfl, of_decide_eq_true rfl⟩ | exact .inr ⟨of_decide_eq_true rfl, of_decide_eq_true rfl⟩ | exact ⟨by omega, by omega⟩)); conv => whnf)
    rw [h1]
    conv => whnf
    repeat ((with_reducible refine And.intro ?_ ?_); (focus (first | omega | rfl | exact True.intro | exact ⟨rfl, rfl⟩ | exact .inl rfl | exact of_decide_eq_true rfl | exact ⟨rfl, of_decide_eq_true rfl⟩ | decide | assumption | exact .inl ⟨of_decide_eq_true rfl, of_decide_eq_true rfl⟩ | exact .inr ⟨of_decide_eq_true rfl, of_decide_eq_true rfl⟩ | exact ⟨by omega, by omega⟩)); conv => whnf)
    refine lead_g (ts := .lst ((y :: ys).map D.str)) rfl hlt hi' ho ht hts bo bt ?_
    conv => whnf
    repeat ((with_reducible refine And.intro ?_ ?_); (focus (first | omega | rfl | exact True.intro | exact ⟨rfl, rfl⟩ | exact .inl rfl | exact of_decide_eq_true rfl | exact ⟨rfl, of_decide_eq_true rfl⟩ | decide | assumption | exact .inl ⟨of_decide_eq_true rfl, of_decide_eq_true rfl⟩ | exact .inr ⟨of_decide_eq_true rfl, of_decide_eq_true rfl⟩ | exact ⟨by omega, by omega⟩)); conv => whnf)
    exact h
/-- the words of a good row are words -/
theorem rowW_wok {r : Rw} (h : RwOk r) (hw : ∀ z, oldB (.str z) = true ∨ joinB (.str z) = true → Wok z ∧ topD (.str z) = true) : ∀ w ∈ rowW r, Wok w := by
  have k1 : Wok "run" ∧ Wok "to" ∧ Wok "lead" ∧ Wok "join" := ⟨wok_of (by decide +kernel), wok_of (by decide +kernel), wok_of (by decide +kernel), wok_of (by decide +kernel)⟩
  have jn : ∀ {z}, nmB (.str z) = true → joinB (.str z) = true := fun {z} e => by unfold joinB; rw [e]; rfl
  have o := h.ol
  intro w hm
  cases r with
  | run a t =>
    simp only [rowW, List.mem_cons, List.not_mem_nil, or_false] at hm
    rcases hm with rfl | rfl | rfl | rfl
    · exact k1.1
    · exact (hw _ (.inl o.1)).1
    · exact k1.2.1
    · exact (hw _ (.inr (jn o.2))).1
  | lead ts a t =>
    simp only [rowW, List.mem_cons, List.mem_append, List.not_mem_nil, or_false] at hm
    rcases hm with rfl | hm | rfl | rfl | rfl
    · exact k1.2.2.1
    · exact (h.ld ts a t rfl).wk w hm
    · exact (hw _ (.inl o.1)).1
    · exact k1.2.1
    · exact (hw _ (.inr (jn o.2))).1
  | join a b t =>
    simp only [rowW, List.mem_cons, List.not_mem_nil, or_false] at hm
    rcases hm with rfl | rfl | rfl | rfl | rfl
    · exact k1.2.2.2
    · exact (hw _ (.inl o.1)).1
    · exact (hw _ (.inl o.2.1)).1
    · exact k1.2.1
    · exact (hw _ (.inr o.2.2)).1
end
end Lw

set_option Elab.async false
set_option linter.all false
set_option maxRecDepth 100000
set_option maxHeartbeats 0
set_option pp.maxSteps 400
namespace Lw
open PySem PySem.Spec PyProof.Rows L2 DL
theorem name_inv {z : Str} (h : nameB z = true) : (1 ≤ z.length ∧ z.length ≤ 4) ∧ inBar z = false ∧ ∀ c ∈ TL.tl z, c ∈ TL.tl smallL := by
  unfold nameB at h
  simp only [Bool.and_eq_true, decide_eq_true_eq, Bool.not_eq_true'] at h
  obtain ⟨h1, h2, h3, h4⟩ := h
  refine ⟨⟨by omega, by omega⟩, h3, fun c hc => ?_⟩
  have := List.all_eq_true.mp h4 (.str ⟨#[c]⟩) (List.mem_map.mpr ⟨c, hc, rfl⟩)
  have this : (!(Builtin.Str.occurrences smallL ⟨#[c]⟩ 0 smallL.length 1).isEmpty) = true := this
  rw [PySem.StrLaws.found_one] at this
  exact of_decide_eq_true this
theorem small_c : ∀ c ∈ TL.tl smallL, c < 256 ∧ c ≠ 32 ∧ 97 ≤ c ∧ c ≤ 122 := by decide +kernel
theorem name_wok {z : Str} (h : nameB z = true) : Wok z ∧ topD (.str z) = true := by
  obtain ⟨⟨h1, h2⟩, _, h3⟩ := name_inv h
  have hl : PyData.canLay0 (.str z) = true := by
    show z.cps.all (· < 0x110000) = true
    rw [← Array.all_toList, List.all_eq_true]
    intro c hc
    have := small_c c (h3 c hc)
    simp
    omega
  refine ⟨⟨by omega, hl, fun hc => ?_⟩, ?_⟩
  · exact (small_c 32 (h3 32 hc)).2.1 rfl
  · show (decide (z.length ≤ 100) && PyData.canLay0 (.str z)) = true
    rw [hl, decide_eq_true (by omega)]; rfl
theorem word_wok : ∀ z ∈ ([("any" : Str), "here", "came"]), wokB z = true ∧ topD (.str z) = true := by decide +kernel
theorem old_wok (z : Str) (h : oldB (.str z) = true ∨ joinB (.str z) = true) : Wok z ∧ topD (.str z) = true := by
  have two : ∀ ws : List Str, (∀ x ∈ ws, x ∈ ([("any" : Str), "here", "came"])) → (nmB (.str z) || wordB ws (.str z)) = true → Wok z ∧ topD (.str z) = true := fun ws hs e => by
    rcases Bool.or_eq_true_iff.mp e with e | e
    · exact name_wok e
    · rw [wordB_str] at e
      have := word_wok z (hs z (of_decide_eq_true e))
      exact ⟨wok_of this.1, this.2⟩
  rcases h with h | h
  · exact two ["any"] (by simp) h
  · exact two ["here", "came"] (by simp) h
theorem nm_join {z : Str} (e : nmB (.str z) = true) : joinB (.str z) = true := by unfold joinB; rw [e]; rfl
theorem rw_sho {r : Rw} (h : RwOk r) : Sho r ∧ (rowT r).length ≤ 200 := by
  have o := h.ol
  cases r with
  | run a t =>
    have h1 := (old_wok a (.inl o.1)).1.len
    have h2 := (old_wok t (.inr (nm_join o.2))).1.len
    refine ⟨⟨?_, fun _ _ _ e => by cases e⟩, ?_⟩
    all_goals
      unfold rowT
      simp only [Str.length_append, c_run, c_to]
      omega
  | lead ts a t =>
    have p := h.ld ts a t rfl
    have h1 := (old_wok a (.inl o.1)).1.len
    have h2 := (old_wok t (.inr (nm_join o.2))).1.len
    have h3 := p.al
    refine ⟨⟨?_, fun _ _ _ e => by cases e; have := p.sz; omega⟩, ?_⟩
    all_goals
      unfold rowT
      simp only [Str.length_append, c_lead, c_to, c_sp]
      omega
  | join a b t =>
    have h1 := (old_wok a (.inl o.1)).1.len
    have h2 := (old_wok b (.inl o.2.1)).1.len
    have h3 := (old_wok t (.inr o.2.2)).1.len
    refine ⟨⟨?_, fun _ _ _ e => by cases e⟩, ?_⟩
    all_goals
      unfold rowT
      simp only [Str.length_append, c_join, c_to, c_sp]
      omega
section
variable {kd : D → Prop} {kx : DX → Prop}
theorem row_in_t {r : Rw} (h : RwOk r) (h6 : ∀ ts o t, r = .lead ts o t → ∀ x ∈ ts, topD (.str x) = true) (hk : kd (rowO r)) : sm_row_in [.lst ((rowW r).map D.str)] kd kx := by
  have o := h.ol
  cases r with
  | run a t => exact row_in_run (old_wok a (.inl o.1)).2 (old_wok t (.inr (nm_join o.2))).2 o.1 o.2 hk
  | lead ts a t => exact row_in_lead (h.ld ts a t rfl) (h6 ts a t rfl) (old_wok a (.inl o.1)).2 (old_wok t (.inr (nm_join o.2))).2 o.1 o.2 hk
  | join a b t => exact row_in_join (old_wok a (.inl o.1)).2 (old_wok b (.inl o.2.1)).2 (old_wok t (.inr o.2.2)).2 o.1 o.2.1 o.2.2 hk
theorem read_t {r : Rw} (h : RwOk r) (h6 : ∀ ts o t, r = .lead ts o t → ∀ x ∈ ts, topD (.str x) = true) (hk : kd (rowO r)) : sm_Row_read [.cl "Row", .str (rowT r)] kd kx := by
  have hs := sizeLine_eq
  obtain ⟨sho, hl⟩ := rw_sho h
  have a1 := fun {kd : D → Prop} => str_t (kd := kd) (kx := kx) sho.len sho.ts
  have a2 := split_row h.ld (rowW_wok h old_wok)
  have b1 : (rowT r).length + 2 ≤ sizeLine := by omega
  unfold sm_Row_read
  refine ⟨rfl, ?_⟩
  conv => whnf
  repeat ((with_reducible refine And.intro ?_ ?_); (focus (first | omega | rfl | exact True.intro | exact ⟨rfl, rfl⟩ | exact .inl rfl | exact of_decide_eq_true rfl | exact ⟨rfl, of_decide_eq_true rfl⟩ | decide | assumption | exact .inl ⟨of_decide_eq_true rfl, of_decide_eq_true rfl⟩ | exact .inr ⟨of_decide_eq_true rfl, of_decide_eq_true rfl⟩ | exact ⟨by omega, by omega⟩)); conv => whnf)
  refine ⟨⟨rfl, b1⟩, ?_⟩
  rw [a2]
  conv => whnf
  repeat ((with_reducible refine And.intro ?_ ?_); (focus (first | omega | rfl | exact True.intro | exact ⟨rfl, rfl⟩ | exact .inl rfl | exact of_decide_eq_true rfl | exact ⟨rfl, of_decide_eq_true rfl⟩ | decide | assumption | exact .inl ⟨of_decide_eq_true rfl, of_decide_eq_true rfl⟩ | exact .inr ⟨of_decide_eq_true rfl, of_decide_eq_true rfl⟩ | exact ⟨by omega, by omega⟩)); conv => whnf)
  refine row_in_t h h6 ?_
  cases r
  all_goals
    conv => whnf
    repeat ((with_reducible refine And.intro ?_ ?_); (focus (first | omega | rfl | exact True.intro | exact ⟨rfl, rfl⟩ | exact .inl rfl | exact of_decide_eq_true rfl | exact ⟨rfl, of_decide_eq_true rfl⟩ | decide | assumption | exact .inl ⟨of_decide_eq_true rfl, of_decide_eq_true rfl⟩ | exact .inr ⟨of_decide_eq_true rfl, of_decide_eq_true rfl⟩ | exact ⟨by omega, by omega⟩)); conv => whnf)
    refine a1 ?_
    conv => whnf
    repeat ((with_reducible refine And.intro ?_ ?_); (focus (first | omega | rfl | exact True.intro | exact ⟨rfl, rfl⟩ | exact .inl rfl | exact of_decide_eq_true rfl | exact ⟨rfl, of_decide_eq_true rfl⟩ | decide | assumption | exact .inl ⟨of_decide_eq_true rfl, of_decide_eq_true rfl⟩ | exact .inr ⟨of_decide_eq_true rfl, of_decide_eq_true rfl⟩ | exact ⟨by omega, by omega⟩)); conv => whnf)
    refine ite_f (by simp) ?_
    conv => whnf
    repeat ((with_reducible refine And.intro ?_ ?_); (focus (first | omega | rfl | exact True.intro | exact ⟨rfl, rfl⟩ | exact .inl rfl | exact of_decide_eq_true rfl | exact ⟨rfl, of_decide_eq_true rfl⟩ | decide | assumption | exact .inl ⟨of_decide_eq_true rfl, of_decide_eq_true rfl⟩ | exact .inr ⟨of_decide_eq_true rfl, of_decide_eq_true rfl⟩ | exact ⟨by omega, by omega⟩)); conv => whnf)
    exact hk
end
end Lw

set_option Elab.async false
set_option linter.all false
set_option maxRecDepth 100000
set_option maxHeartbeats 0
set_option pp.maxSteps 400
namespace Lw
open PySem PySem.Spec PyProof.Rows L2 DL
def rowTup : Rw → D
  | .run o t => .tup [.str "run", .str o, .str t]
  | .lead ts o t => .tup [.str "lead", .lst (ts.map D.str), .str o, .str t]
  | .join a b t => .tup [.str "join", .str a, .str b, .str t]
/-- a drawn row -/
structure RwD (r : Rw) : Prop where
  ok : RwOk r
  t6 : ∀ ts o t, r = .lead ts o t → ∀ x ∈ ts, x ∈ tests6
theorem top6 : ∀ x ∈ tests6, topD (.str x) = true := by decide +kernel
theorem RwD.tp {r : Rw} (h : RwD r) : ∀ ts o t, r = .lead ts o t → ∀ x ∈ ts, topD (.str x) = true := fun ts o t e x hx => top6 x (h.t6 ts o t e x hx)
theorem mark_nm : ∀ z ∈ marksL, nmB (.str z) = true := by decide +kernel
theorem old_any : oldB (.str "any") = true := by decide +kernel
theorem join_hc : joinB (.str "here") = true ∧ joinB (.str "came") = true := by decide +kernel
theorem nm_old {z : Str} (e : nmB (.str z) = true) : oldB (.str z) = true := by unfold oldB; rw [e]; rfl
section
variable {kd : D → Prop} {kx : DX → Prop}
/-- one of the marks -/
theorem pick_m {ms : List Str} (hm : ms ≠ []) (hl : ms.length ≤ 14) (h : ∀ z ∈ ms, kd (.str z)) : sm__law_pick [.src, .lst (ms.map D.str)] kd kx := by
  refine pick_ok (by simpa using hm) (by rw [List.length_map]; omega) fun d hd => ?_
  obtain ⟨z, hz, rfl⟩ := List.mem_map.mp hd
  exact h z hz
/-- one of the marks, or of some words -/
theorem pick_x {ms ws : List Str} (hw : ws ≠ []) (hl : ms.length ≤ 14) (hlw : ws.length ≤ 14) (h : ∀ z, z ∈ ms ∨ z ∈ ws → kd (.str z)) : sm__law_pick [.src, .lst (ms.map D.str ++ ws.map D.str)] kd kx := by
  refine pick_ok (by simp [hw]) (by simp; omega) fun d hd => ?_
  rcases List.mem_append.mp hd with hd | hd
  · obtain ⟨z, hz, rfl⟩ := List.mem_map.mp hd
    exact h z (.inl hz)
  · obtain ⟨z, hz, rfl⟩ := List.mem_map.mp hd
    exact h z (.inr hz)
theorem row_ok {ms : List Str} (hm : ms ≠ []) (hl : ms.length ≤ 14) (hz : ∀ z ∈ ms, z ∈ marksL) (h : ∀ r, RwD r → kd (rowTup r)) : sm__law_row [.src, .lst (ms.map D.str)] kd kx := by
  have hs := sizeLine_eq
  have hnm : ∀ z ∈ ms, nmB (.str z) = true := fun z hh => mark_nm z (hz z hh)
  have b1 : (ms.map D.str).length + [D.str "any"].length ≤ sizeLine := by simp; omega
  have b2 : (ms.map D.str).length + [D.str "here", D.str "came"].length ≤ sizeLine := by simp; omega
  unfold sm__law_row
  refine ⟨rfl, ?_⟩
  conv => whnf
  repeat ((with_reducible refine And.intro ?_ ?_); (focus (first | omega | rfl | exact True.intro | exact ⟨rfl, rfl⟩ | exact .inl rfl | exact of_decide_eq_true rfl | exact ⟨rfl, of_decide_eq_true rfl⟩ | decide | assumption | exact .inl ⟨of_decide_eq_true rfl, of_decide_eq_true rfl⟩ | exact .inr ⟨of_decide_eq_true rfl, of_decide_eq_true rfl⟩ | exact ⟨by omega, by omega⟩)); conv => whnf)
  refine ⟨3, rfl, by decide, by decide, fun j j0 j1 => ?_⟩
  conv => whnf
  repeat ((with_reducible refine And.intro ?_ ?_); (focus (first | omega | rfl | exact True.intro | exact ⟨rfl, rfl⟩ | exact .inl rfl | exact of_decide_eq_true rfl | exact ⟨rfl, of_decide_eq_true rfl⟩ | decide | assumption | exact .inl ⟨of_decide_eq_true rfl, of_decide_eq_true rfl⟩ | exact .inr ⟨of_decide_eq_true rfl, of_decide_eq_true rfl⟩ | exact ⟨by omega, by omega⟩)); conv => whnf)
  have old : ∀ z, z ∈ ms ∨ z ∈ ([("any" : Str)]) → oldB (.str z) = true := fun z hh => by
    rcases hh with hh | hh
    · exact nm_old (hnm z hh)
    · rw [List.mem_singleton.mp hh]; exact old_any
  refine ite_d (fun e => ?_) (fun e => ?_)
  · conv => whnf
    repeat ((with_reducible refine And.intro ?_ ?_); (focus (first | omega | rfl | exact True.intro | exact ⟨rfl, rfl⟩ | exact .inl rfl | exact of_decide_eq_true rfl | exact ⟨rfl, of_decide_eq_true rfl⟩ | decide | assumption | exact .inl ⟨of_decide_eq_true rfl, of_decide_eq_true rfl⟩ | exact .inr ⟨of_decide_eq_true rfl, of_decide_eq_true rfl⟩ | exact ⟨by omega, by omega⟩)); conv => whnf)
    refine pick_x (ws := ["any"]) (by simp) hl (by decide) fun z hz => ?_
    conv => whnf
    repeat ((with_reducible refine And.intro ?_ ?_); (focus (first | omega | rfl | exact True.intro | exact ⟨rfl, rfl⟩ | exact .inl rfl | exact of_decide_eq_true rfl | exact ⟨rfl, of_decide_eq_true rfl⟩ | decide | assumption | exact .inl ⟨of_decide_eq_true rfl, of_decide_eq_true rfl⟩ | exact .inr ⟨of_decide_eq_true rfl, of_decide_eq_true rfl⟩ | exact ⟨by omega, by omega⟩)); conv => whnf)
    refine pick_m hm hl fun t ht => ?_
    conv => whnf
    repeat ((with_reducible refine And.intro ?_ ?_); (focus (first | omega | rfl | exact True.intro | exact ⟨rfl, rfl⟩ | exact .inl rfl | exact of_decide_eq_true rfl | exact ⟨rfl, of_decide_eq_true rfl⟩ | decide | assumption | exact .inl ⟨of_decide_eq_true rfl, of_decide_eq_true rfl⟩ | exact .inr ⟨of_decide_eq_true rfl, of_decide_eq_true rfl⟩ | exact ⟨by omega, by omega⟩)); conv => whnf)
    exact h (.run z t) ⟨⟨(fun _ _ _ e => by cases e), old z hz, hnm t ht⟩, (fun _ _ _ e => by cases e)⟩
  conv => whnf
  repeat ((with_reducible refine And.intro ?_ ?_); (focus (first | omega | rfl | exact True.intro | exact ⟨rfl, rfl⟩ | exact .inl rfl | exact of_decide_eq_true rfl | exact ⟨rfl, of_decide_eq_true rfl⟩ | decide | assumption | exact .inl ⟨of_decide_eq_true rfl, of_decide_eq_true rfl⟩ | exact .inr ⟨of_decide_eq_true rfl, of_decide_eq_true rfl⟩ | exact ⟨by omega, by omega⟩)); conv => whnf)
  refine ite_d (fun e => ?_) (fun e => ?_)
  · conv => whnf
    repeat ((with_reducible refine And.intro ?_ ?_); (focus (first | omega | rfl | exact True.intro | exact ⟨rfl, rfl⟩ | exact .inl rfl | exact of_decide_eq_true rfl | exact ⟨rfl, of_decide_eq_true rfl⟩ | decide | assumption | exact .inl ⟨of_decide_eq_true rfl, of_decide_eq_true rfl⟩ | exact .inr ⟨of_decide_eq_true rfl, of_decide_eq_true rfl⟩ | exact ⟨by omega, by omega⟩)); conv => whnf)
    refine tests_ok fun ts hts => ?_
    conv => whnf
    repeat ((with_reducible refine And.intro ?_ ?_); (focus (first | omega | rfl | exact True.intro | exact ⟨rfl, rfl⟩ | exact .inl rfl | exact of_decide_eq_true rfl | exact ⟨rfl, of_decide_eq_true rfl⟩ | decide | assumption | exact .inl ⟨of_decide_eq_true rfl, of_decide_eq_true rfl⟩ | exact .inr ⟨of_decide_eq_true rfl, of_decide_eq_true rfl⟩ | exact ⟨by omega, by omega⟩)); conv => whnf)
    have e1 : cutL (ms.map D.str) (some 1) none = (ms.drop 1).map D.str := by rw [cut_drop (by decide), ← List.map_drop]; rfl
    rw [e1]
    have b3 : ((ms.drop 1).map D.str).length + [D.str "any"].length ≤ sizeLine := by simp; omega
    conv => whnf
    repeat ((with_reducible refine And.intro ?_ ?_); (focus (first | omega | rfl | exact True.intro | exact ⟨rfl, rfl⟩ | exact .inl rfl | exact of_decide_eq_true rfl | exact ⟨rfl, of_decide_eq_true rfl⟩ | decide | assumption | exact .inl ⟨of_decide_eq_true rfl, of_decide_eq_true rfl⟩ | exact .inr ⟨of_decide_eq_true rfl, of_decide_eq_true rfl⟩ | exact ⟨by omega, by omega⟩)); conv => whnf)
    refine pick_x (ms := ms.drop 1) (ws := ["any"]) (by simp) (by simp; omega) (by decide) fun z hz => ?_
    conv => whnf
    repeat ((with_reducible refine And.intro ?_ ?_); (focus (first | omega | rfl | exact True.intro | exact ⟨rfl, rfl⟩ | exact .inl rfl | exact of_decide_eq_true rfl | exact ⟨rfl, of_decide_eq_true rfl⟩ | decide | assumption | exact .inl ⟨of_decide_eq_true rfl, of_decide_eq_true rfl⟩ | exact .inr ⟨of_decide_eq_true rfl, of_decide_eq_true rfl⟩ | exact ⟨by omega, by omega⟩)); conv => whnf)
    refine pick_m hm hl fun t ht => ?_
    conv => whnf
    repeat ((with_reducible refine And.intro ?_ ?_); (focus (first | omega | rfl | exact True.intro | exact ⟨rfl, rfl⟩ | exact .inl rfl | exact of_decide_eq_true rfl | exact ⟨rfl, of_decide_eq_true rfl⟩ | decide | assumption | exact .inl ⟨of_decide_eq_true rfl, of_decide_eq_true rfl⟩ | exact .inr ⟨of_decide_eq_true rfl, of_decide_eq_true rfl⟩ | exact ⟨by omega, by omega⟩)); conv => whnf)
    obtain ⟨p, p6⟩ := tsP_te hts
    refine h (.lead (ts.map teS) z t) ⟨⟨(fun _ _ _ e => by cases e; exact p), old z ?_, hnm t ht⟩, (fun _ _ _ e => by cases e; exact p6)⟩
    rcases hz with hz | hz
    · exact .inl (List.mem_of_mem_drop hz)
    · exact .inr hz
  · conv => whnf
    repeat ((with_reducible refine And.intro ?_ ?_); (focus (first | omega | rfl | exact True.intro | exact ⟨rfl, rfl⟩ | exact .inl rfl | exact of_decide_eq_true rfl | exact ⟨rfl, of_decide_eq_true rfl⟩ | decide | assumption | exact .inl ⟨of_decide_eq_true rfl, of_decide_eq_true rfl⟩ | exact .inr ⟨of_decide_eq_true rfl, of_decide_eq_true rfl⟩ | exact ⟨by omega, by omega⟩)); conv => whnf)
    refine pick_x (ws := ["any"]) (by simp) hl (by decide) fun a ha => ?_
    conv => whnf
    repeat ((with_reducible refine And.intro ?_ ?_); (focus (first | omega | rfl | exact True.intro | exact ⟨rfl, rfl⟩ | exact .inl rfl | exact of_decide_eq_true rfl | exact ⟨rfl, of_decide_eq_true rfl⟩ | decide | assumption | exact .inl ⟨of_decide_eq_true rfl, of_decide_eq_true rfl⟩ | exact .inr ⟨of_decide_eq_true rfl, of_decide_eq_true rfl⟩ | exact ⟨by omega, by omega⟩)); conv => whnf)
    refine pick_x (ws := ["any"]) (by simp) hl (by decide) fun b hb => ?_
    conv => whnf
    repeat ((with_reducible refine And.intro ?_ ?_); (focus (first | omega | rfl | exact True.intro | exact ⟨rfl, rfl⟩ | exact .inl rfl | exact of_decide_eq_true rfl | exact ⟨rfl, of_decide_eq_true rfl⟩ | decide | assumption | exact .inl ⟨of_decide_eq_true rfl, of_decide_eq_true rfl⟩ | exact .inr ⟨of_decide_eq_true rfl, of_decide_eq_true rfl⟩ | exact ⟨by omega, by omega⟩)); conv => whnf)
    refine pick_x (ws := ["here", "came"]) (by simp) hl (by decide) fun t ht => ?_
    conv => whnf
    repeat ((with_reducible refine And.intro ?_ ?_); (focus (first | omega | rfl | exact True.intro | exact ⟨rfl, rfl⟩ | exact .inl rfl | exact of_decide_eq_true rfl | exact ⟨rfl, of_decide_eq_true rfl⟩ | decide | assumption | exact .inl ⟨of_decide_eq_true rfl, of_decide_eq_true rfl⟩ | exact .inr ⟨of_decide_eq_true rfl, of_decide_eq_true rfl⟩ | exact ⟨by omega, by omega⟩)); conv => whnf)
    refine h (.join a b t) ⟨⟨(fun _ _ _ e => by cases e), old a ha, old b hb, ?_⟩, (fun _ _ _ e => by cases e)⟩
    rcases ht with ht | ht
    · exact nm_join (hnm t ht)
    · simp only [List.mem_cons, List.not_mem_nil, or_false] at ht
      rcases ht with rfl | rfl
      · exact join_hc.1
      · exact join_hc.2
end
end Lw

set_option Elab.async false
set_option linter.all false
set_option maxRecDepth 100000
set_option maxHeartbeats 0
set_option pp.maxSteps 400
namespace Lw
open PySem PySem.Spec PyProof.Rows L2 DL
/-- values, lists and tuples so deep at most -/
def okV : Nat → D → Bool
  | _, .non => true
  | _, .bl _ => true
  | _, .int _ => true
  | _, .str z => decide (z.length ≤ 100) && PyData.canLay0 (.str z)
  | n + 1, .lst xs => decide (xs.length ≤ 100) && xs.all (okV n)
  | n + 1, .tup xs => decide (xs.length ≤ 100) && xs.all (okV n)
  | _, _ => false
theorem okV_top : ∀ {n : Nat} {d : D}, okV n d = true → topD d = true := fun {n d} h => by
  cases d with
  | str z => cases n <;> exact h
  | non => rfl
  | bl _ => rfl
  | int _ => rfl
  | lst _ => rfl
  | tup _ => rfl
  | _ => cases n <;> cases h
theorem okV_up : ∀ {n : Nat} {d : D}, okV n d = true → okV (n + 1) d = true
  | 0, d, h => by cases d <;> first | exact h | cases h
  | n + 1, .lst xs, h => by
    obtain ⟨h1, h2⟩ := Bool.and_eq_true_iff.mp (show (decide (xs.length ≤ 100) && xs.all (okV n)) = true from h)
    show (decide (xs.length ≤ 100) && xs.all (okV (n + 1))) = true
    rw [h1, Bool.true_and, List.all_eq_true]
    exact fun x hx => okV_up (List.all_eq_true.mp h2 x hx)
  | n + 1, .tup xs, h => by
    obtain ⟨h1, h2⟩ := Bool.and_eq_true_iff.mp (show (decide (xs.length ≤ 100) && xs.all (okV n)) = true from h)
    show (decide (xs.length ≤ 100) && xs.all (okV (n + 1))) = true
    rw [h1, Bool.true_and, List.all_eq_true]
    exact fun x hx => okV_up (List.all_eq_true.mp h2 x hx)
  | n + 1, .non, h => rfl
  | n + 1, .bl _, h => rfl
  | n + 1, .int _, h => rfl
  | n + 1, .str _, h => h
  | n + 1, .dic _ _, h => by cases h
  | n + 1, .obj _ _ _, h => by cases h
  | n + 1, .box _, h => by cases h
  | n + 1, .scr _, h => by cases h
  | n + 1, .ty _, h => by cases h
  | n + 1, .cl _, h => by cases h
  | n + 1, .src, h => by cases h
theorem okV_lst {n : Nat} {xs : List D} (hl : xs.length ≤ 100) (h : ∀ x ∈ xs, okV n x = true) : okV (n + 1) (.lst xs) = true := by
  show (decide (xs.length ≤ 100) && xs.all (okV n)) = true
  rw [decide_eq_true hl, Bool.true_and, List.all_eq_true]
  exact h
theorem okV_tup {n : Nat} {xs : List D} (hl : xs.length ≤ 100) (h : ∀ x ∈ xs, okV n x = true) : okV (n + 1) (.tup xs) = true := by
  show (decide (xs.length ≤ 100) && xs.all (okV n)) = true
  rw [decide_eq_true hl, Bool.true_and, List.all_eq_true]
  exact h
theorem okV_its {n : Nat} {d : D} (h : okV (n + 1) d = true) : (itsOf d).length ≤ 100 ∧ ∀ x ∈ itsOf d, okV n x = true := by
  cases d with
  | lst xs =>
    obtain ⟨h1, h2⟩ := Bool.and_eq_true_iff.mp (show (decide (xs.length ≤ 100) && xs.all (okV n)) = true from h)
    exact ⟨of_decide_eq_true h1, fun x hx => List.all_eq_true.mp h2 x hx⟩
  | tup xs =>
    obtain ⟨h1, h2⟩ := Bool.and_eq_true_iff.mp (show (decide (xs.length ≤ 100) && xs.all (okV n)) = true from h)
    exact ⟨of_decide_eq_true h1, fun x hx => List.all_eq_true.mp h2 x hx⟩
  | _ => exact ⟨Nat.zero_le _, fun x hx => by cases hx⟩
theorem toPys_ok {P : PyData → Prop} : ∀ {xs : List D}, (∀ x ∈ xs, ∃ p, toPy x = some p ∧ P p) → ∃ ps, toPys xs = some ps ∧ ∀ p ∈ ps, P p
  | [], _ => ⟨[], rfl, fun p h => by cases h⟩
  | x :: xs, h => by
    obtain ⟨p, e, hp⟩ := h x (List.mem_cons_self ..)
    obtain ⟨ps, e2, hps⟩ := toPys_ok (P := P) fun y hy => h y (List.mem_cons_of_mem _ hy)
    refine ⟨p :: ps, by unfold toPys; rw [e, e2], fun q hq => ?_⟩
    rcases List.mem_cons.mp hq with rfl | hq
    · exact hp
    · exact hps q hq
theorem lay_id {ps : List PyData} (h : ∀ p ∈ ps, p.canLay0 = true) : PyData.canLayAll0 ps = true := by
  have := lay_map (h := id) (xs := ps) h
  simpa using this
theorem depth_id {m : Nat} {ps : List PyData} (h : ∀ p ∈ ps, p.depth ≤ m) : PyData.depthAll ps ≤ m := by
  have := depth_map (h := id) (m := m) (xs := ps) h
  simpa using this
/-- what values are for comparing -/
theorem okV_py : ∀ {n : Nat} {d : D}, okV n d = true → ∃ p, toPy d = some p ∧ p.canLay0 = true ∧ p.depth ≤ n := fun {n} => by
  induction n with
  | zero =>
    intro d h
    cases d with
    | str z => exact ⟨.str z, rfl, (Bool.and_eq_true_iff.mp h).2, Nat.le_refl _⟩
    | non => exact ⟨.none, rfl, rfl, Nat.le_refl _⟩
    | bl b => exact ⟨.bool b, rfl, rfl, Nat.le_refl _⟩
    | int i => exact ⟨.int i, rfl, rfl, Nat.le_refl _⟩
    | _ => cases h
  | succ n ih =>
    intro d h
    cases d with
    | str z => exact ⟨.str z, rfl, (Bool.and_eq_true_iff.mp h).2, Nat.zero_le _⟩
    | non => exact ⟨.none, rfl, rfl, Nat.zero_le _⟩
    | bl b => exact ⟨.bool b, rfl, rfl, Nat.zero_le _⟩
    | int i => exact ⟨.int i, rfl, rfl, Nat.zero_le _⟩
    | lst xs =>
      obtain ⟨ps, e, hp⟩ := toPys_ok (P := fun p => p.canLay0 = true ∧ p.depth ≤ n) (xs := xs) fun x hx => ih ((okV_its h).2 x hx)
      refine ⟨.list ps, by show (toPys xs).map PyData.list = _; rw [e]; rfl, lay_id fun p hq => (hp p hq).1, ?_⟩
      show PyData.depthAll ps + 1 ≤ n + 1
      have := depth_id fun p hq => (hp p hq).2
      omega
    | tup xs =>
      obtain ⟨ps, e, hp⟩ := toPys_ok (P := fun p => p.canLay0 = true ∧ p.depth ≤ n) (xs := xs) fun x hx => ih ((okV_its h).2 x hx)
      refine ⟨.tuple ps, by show (toPys xs).map PyData.tuple = _; rw [e]; rfl, lay_id fun p hq => (hp p hq).1, ?_⟩
      show PyData.depthAll ps + 1 ≤ n + 1
      have := depth_id fun p hq => (hp p hq).2
      omega
    | _ => cases h
theorem okV_shape {n : Nat} {d : D} (hn : n ≤ 60) (h : okV n d = true) : ∃ p, toPy d = some p ∧ SeqAt.shaped p = true := by
  obtain ⟨p, e, h1, h2⟩ := okV_py h
  refine ⟨p, e, ?_⟩
  show (p.canLay0 && decide (p.depth ≤ 64)) = true
  rw [h1, decide_eq_true (by omega)]; rfl
section
variable {kd : D → Prop} {kx : DX → Prop}
def flatL : List D := [.int 0, .int 1, .int (-7), .int 100000000000000000000, .non, .bl true, .bl false, .str "", .str "any", .str "here", .str "own", .str "run", .str "not own", .str "came", .str "x y"]
theorem flatL_ok : ∀ d ∈ flatL, okV 0 d = true := by decide +kernel
theorem okV_up0 : ∀ {n : Nat} {d : D}, okV 0 d = true → okV n d = true
  | 0, _, h => h
  | n + 1, _, h => okV_up (okV_up0 h)
theorem value_0 (h : ∀ d, okV 0 d = true → kd d) : sm__law_value_0 [.src, .int 0] kd kx := by
  unfold sm__law_value_0
  refine ⟨rfl, ?_⟩
  conv => whnf
  repeat ((with_reducible refine And.intro ?_ ?_); (focus (first | omega | rfl | exact True.intro | exact ⟨rfl, rfl⟩ | exact .inl rfl | exact of_decide_eq_true rfl | exact ⟨rfl, of_decide_eq_true rfl⟩ | decide | assumption | exact .inl ⟨of_decide_eq_true rfl, of_decide_eq_true rfl⟩ | exact .inr ⟨of_decide_eq_true rfl, of_decide_eq_true rfl⟩ | exact ⟨by omega, by omega⟩)); conv => whnf)
  refine ⟨4, rfl, by decide, by decide, fun j j0 j1 => ?_⟩
  conv => whnf
  repeat ((with_reducible refine And.intro ?_ ?_); (focus (first | omega | rfl | exact True.intro | exact ⟨rfl, rfl⟩ | exact .inl rfl | exact of_decide_eq_true rfl | exact ⟨rfl, of_decide_eq_true rfl⟩ | decide | assumption | exact .inl ⟨of_decide_eq_true rfl, of_decide_eq_true rfl⟩ | exact .inr ⟨of_decide_eq_true rfl, of_decide_eq_true rfl⟩ | exact ⟨by omega, by omega⟩)); conv => whnf)
  refine ite_d (fun e => ?_) (fun e => ?_)
  · conv => whnf
    repeat ((with_reducible refine And.intro ?_ ?_); (focus (first | omega | rfl | exact True.intro | exact ⟨rfl, rfl⟩ | exact .inl rfl | exact of_decide_eq_true rfl | exact ⟨rfl, of_decide_eq_true rfl⟩ | decide | assumption | exact .inl ⟨of_decide_eq_true rfl, of_decide_eq_true rfl⟩ | exact .inr ⟨of_decide_eq_true rfl, of_decide_eq_true rfl⟩ | exact ⟨by omega, by omega⟩)); conv => whnf)
    refine pick_ok (by simp) (by decide) fun d hd => ?_
    exact h d (by revert d; decide +kernel)
  conv => whnf
  repeat ((with_reducible refine And.intro ?_ ?_); (focus (first | omega | rfl | exact True.intro | exact ⟨rfl, rfl⟩ | exact .inl rfl | exact of_decide_eq_true rfl | exact ⟨rfl, of_decide_eq_true rfl⟩ | decide | assumption | exact .inl ⟨of_decide_eq_true rfl, of_decide_eq_true rfl⟩ | exact .inr ⟨of_decide_eq_true rfl, of_decide_eq_true rfl⟩ | exact ⟨by omega, by omega⟩)); conv => whnf)
  refine ite_d (fun e2 => ?_) (fun e2 => ?_)
  · conv => whnf
    repeat ((with_reducible refine And.intro ?_ ?_); (focus (first | omega | rfl | exact True.intro | exact ⟨rfl, rfl⟩ | exact .inl rfl | exact of_decide_eq_true rfl | exact ⟨rfl, of_decide_eq_true rfl⟩ | decide | assumption | exact .inl ⟨of_decide_eq_true rfl, of_decide_eq_true rfl⟩ | exact .inr ⟨of_decide_eq_true rfl, of_decide_eq_true rfl⟩ | exact ⟨by omega, by omega⟩)); conv => whnf)
    refine pick_ok (by simp) (by decide) fun d hd => ?_
    exact h d (by revert d; decide +kernel)
  conv => whnf
  repeat ((with_reducible refine And.intro ?_ ?_); (focus (first | omega | rfl | exact True.intro | exact ⟨rfl, rfl⟩ | exact .inl rfl | exact of_decide_eq_true rfl | exact ⟨rfl, of_decide_eq_true rfl⟩ | decide | assumption | exact .inl ⟨of_decide_eq_true rfl, of_decide_eq_true rfl⟩ | exact .inr ⟨of_decide_eq_true rfl, of_decide_eq_true rfl⟩ | exact ⟨by omega, by omega⟩)); conv => whnf)
  refine ite_t (decide_eq_true (by omega)) ?_
  conv => whnf
  repeat ((with_reducible refine And.intro ?_ ?_); (focus (first | omega | rfl | exact True.intro | exact ⟨rfl, rfl⟩ | exact .inl rfl | exact of_decide_eq_true rfl | exact ⟨rfl, of_decide_eq_true rfl⟩ | decide | assumption | exact .inl ⟨of_decide_eq_true rfl, of_decide_eq_true rfl⟩ | exact .inr ⟨of_decide_eq_true rfl, of_decide_eq_true rfl⟩ | exact ⟨by omega, by omega⟩)); conv => whnf)
  refine pick_ok (by simp) (by decide) fun d hd => ?_
  exact h d (by revert d; decide +kernel)
theorem value_1 (h : ∀ d, okV 1 d = true → kd d) : sm__law_value_1 [.src, .int 1] kd kx := by
  have hs := sizeLine_eq
  unfold sm__law_value_1
  refine ⟨rfl, ?_⟩
  conv => whnf
  repeat ((with_reducible refine And.intro ?_ ?_); (focus (first | omega | rfl | exact True.intro | exact ⟨rfl, rfl⟩ | exact .inl rfl | exact of_decide_eq_true rfl | exact ⟨rfl, of_decide_eq_true rfl⟩ | decide | assumption | exact .inl ⟨of_decide_eq_true rfl, of_decide_eq_true rfl⟩ | exact .inr ⟨of_decide_eq_true rfl, of_decide_eq_true rfl⟩ | exact ⟨by omega, by omega⟩)); conv => whnf)
  refine ⟨7, rfl, by decide, by decide, fun j j0 j1 => ?_⟩
  conv => whnf
  repeat ((with_reducible refine And.intro ?_ ?_); (focus (first | omega | rfl | exact True.intro | exact ⟨rfl, rfl⟩ | exact .inl rfl | exact of_decide_eq_true rfl | exact ⟨rfl, of_decide_eq_true rfl⟩ | decide | assumption | exact .inl ⟨of_decide_eq_true rfl, of_decide_eq_true rfl⟩ | exact .inr ⟨of_decide_eq_true rfl, of_decide_eq_true rfl⟩ | exact ⟨by omega, by omega⟩)); conv => whnf)
  refine ite_d (fun e => ?_) (fun e => ?_)
  · conv => whnf
    repeat ((with_reducible refine And.intro ?_ ?_); (focus (first | omega | rfl | exact True.intro | exact ⟨rfl, rfl⟩ | exact .inl rfl | exact of_decide_eq_true rfl | exact ⟨rfl, of_decide_eq_true rfl⟩ | decide | assumption | exact .inl ⟨of_decide_eq_true rfl, of_decide_eq_true rfl⟩ | exact .inr ⟨of_decide_eq_true rfl, of_decide_eq_true rfl⟩ | exact ⟨by omega, by omega⟩)); conv => whnf)
    refine pick_ok (by simp) (by decide) fun d hd => ?_
    exact h d (okV_up0 (by revert d; decide +kernel))
  conv => whnf
  repeat ((with_reducible refine And.intro ?_ ?_); (focus (first | omega | rfl | exact True.intro | exact ⟨rfl, rfl⟩ | exact .inl rfl | exact of_decide_eq_true rfl | exact ⟨rfl, of_decide_eq_true rfl⟩ | decide | assumption | exact .inl ⟨of_decide_eq_true rfl, of_decide_eq_true rfl⟩ | exact .inr ⟨of_decide_eq_true rfl, of_decide_eq_true rfl⟩ | exact ⟨by omega, by omega⟩)); conv => whnf)
  refine ite_d (fun e2 => ?_) (fun e2 => ?_)
  · conv => whnf
    repeat ((with_reducible refine And.intro ?_ ?_); (focus (first | omega | rfl | exact True.intro | exact ⟨rfl, rfl⟩ | exact .inl rfl | exact of_decide_eq_true rfl | exact ⟨rfl, of_decide_eq_true rfl⟩ | decide | assumption | exact .inl ⟨of_decide_eq_true rfl, of_decide_eq_true rfl⟩ | exact .inr ⟨of_decide_eq_true rfl, of_decide_eq_true rfl⟩ | exact ⟨by omega, by omega⟩)); conv => whnf)
    refine pick_ok (by simp) (by decide) fun d hd => ?_
    exact h d (okV_up0 (by revert d; decide +kernel))
  conv => whnf
  repeat ((with_reducible refine And.intro ?_ ?_); (focus (first | omega | rfl | exact True.intro | exact ⟨rfl, rfl⟩ | exact .inl rfl | exact of_decide_eq_true rfl | exact ⟨rfl, of_decide_eq_true rfl⟩ | decide | assumption | exact .inl ⟨of_decide_eq_true rfl, of_decide_eq_true rfl⟩ | exact .inr ⟨of_decide_eq_true rfl, of_decide_eq_true rfl⟩ | exact ⟨by omega, by omega⟩)); conv => whnf)
  refine ite_d (fun e3 => ?_) (fun e3 => ?_)
  · conv => whnf
    repeat ((with_reducible refine And.intro ?_ ?_); (focus (first | omega | rfl | exact True.intro | exact ⟨rfl, rfl⟩ | exact .inl rfl | exact of_decide_eq_true rfl | exact ⟨rfl, of_decide_eq_true rfl⟩ | decide | assumption | exact .inl ⟨of_decide_eq_true rfl, of_decide_eq_true rfl⟩ | exact .inr ⟨of_decide_eq_true rfl, of_decide_eq_true rfl⟩ | exact ⟨by omega, by omega⟩)); conv => whnf)
    refine pick_ok (by simp) (by decide) fun d hd => ?_
    exact h d (okV_up0 (by revert d; decide +kernel))
  conv => whnf
  repeat ((with_reducible refine And.intro ?_ ?_); (focus (first | omega | rfl | exact True.intro | exact ⟨rfl, rfl⟩ | exact .inl rfl | exact of_decide_eq_true rfl | exact ⟨rfl, of_decide_eq_true rfl⟩ | decide | assumption | exact .inl ⟨of_decide_eq_true rfl, of_decide_eq_true rfl⟩ | exact .inr ⟨of_decide_eq_true rfl, of_decide_eq_true rfl⟩ | exact ⟨by omega, by omega⟩)); conv => whnf)
  refine ⟨4, rfl, by decide, by decide, fun i i0 i1 => ?_⟩
  conv => whnf
  repeat ((with_reducible refine And.intro ?_ ?_); (focus (first | omega | rfl | exact True.intro | exact ⟨rfl, rfl⟩ | exact .inl rfl | exact of_decide_eq_true rfl | exact ⟨rfl, of_decide_eq_true rfl⟩ | decide | assumption | exact .inl ⟨of_decide_eq_true rfl, of_decide_eq_true rfl⟩ | exact .inr ⟨of_decide_eq_true rfl, of_decide_eq_true rfl⟩ | exact ⟨by omega, by omega⟩)); conv => whnf)
  refine compA (fun d => okV 0 d = true) (by rw [upTo_len]; omega) (fun d k' hd hk => ?_) fun vs hl hv => ?_
  · conv => whnf
    repeat ((with_reducible refine And.intro ?_ ?_); (focus (first | omega | rfl | exact True.intro | exact ⟨rfl, rfl⟩ | exact .inl rfl | exact of_decide_eq_true rfl | exact ⟨rfl, of_decide_eq_true rfl⟩ | decide | assumption | exact .inl ⟨of_decide_eq_true rfl, of_decide_eq_true rfl⟩ | exact .inr ⟨of_decide_eq_true rfl, of_decide_eq_true rfl⟩ | exact ⟨by omega, by omega⟩)); conv => whnf)
    refine value_0 fun v hv => ?_
    conv => whnf
    repeat ((with_reducible refine And.intro ?_ ?_); (focus (first | omega | rfl | exact True.intro | exact ⟨rfl, rfl⟩ | exact .inl rfl | exact of_decide_eq_true rfl | exact ⟨rfl, of_decide_eq_true rfl⟩ | decide | assumption | exact .inl ⟨of_decide_eq_true rfl, of_decide_eq_true rfl⟩ | exact .inr ⟨of_decide_eq_true rfl, of_decide_eq_true rfl⟩ | exact ⟨by omega, by omega⟩)); conv => whnf)
    exact hk v hv
  · have hl2 : vs.length ≤ 100 := by rw [hl, upTo_len]; omega
    conv => whnf
    repeat ((with_reducible refine And.intro ?_ ?_); (focus (first | omega | rfl | exact True.intro | exact ⟨rfl, rfl⟩ | exact .inl rfl | exact of_decide_eq_true rfl | exact ⟨rfl, of_decide_eq_true rfl⟩ | decide | assumption | exact .inl ⟨of_decide_eq_true rfl, of_decide_eq_true rfl⟩ | exact .inr ⟨of_decide_eq_true rfl, of_decide_eq_true rfl⟩ | exact ⟨by omega, by omega⟩)); conv => whnf)
    refine ite_d (fun h2 => ?_) (fun h2 => ?_)
    · conv => whnf
      repeat ((with_reducible refine And.intro ?_ ?_); (focus (first | omega | rfl | exact True.intro | exact ⟨rfl, rfl⟩ | exact .inl rfl | exact of_decide_eq_true rfl | exact ⟨rfl, of_decide_eq_true rfl⟩ | decide | assumption | exact .inl ⟨of_decide_eq_true rfl, of_decide_eq_true rfl⟩ | exact .inr ⟨of_decide_eq_true rfl, of_decide_eq_true rfl⟩ | exact ⟨by omega, by omega⟩)); conv => whnf)
      exact h (.lst vs) (okV_lst hl2 hv)
    · conv => whnf
      repeat ((with_reducible refine And.intro ?_ ?_); (focus (first | omega | rfl | exact True.intro | exact ⟨rfl, rfl⟩ | exact .inl rfl | exact of_decide_eq_true rfl | exact ⟨rfl, of_decide_eq_true rfl⟩ | decide | assumption | exact .inl ⟨of_decide_eq_true rfl, of_decide_eq_true rfl⟩ | exact .inr ⟨of_decide_eq_true rfl, of_decide_eq_true rfl⟩ | exact ⟨by omega, by omega⟩)); conv => whnf)
      exact h (.tup vs) (okV_tup hl2 hv)
theorem value_2 (h : ∀ d, okV 2 d = true → kd d) : sm__law_value_2 [.src, .int 2] kd kx := by
  have hs := sizeLine_eq
  unfold sm__law_value_2
  refine ⟨rfl, ?_⟩
  conv => whnf
  repeat ((with_reducible refine And.intro ?_ ?_); (focus (first | omega | rfl | exact True.intro | exact ⟨rfl, rfl⟩ | exact .inl rfl | exact of_decide_eq_true rfl | exact ⟨rfl, of_decide_eq_true rfl⟩ | decide | assumption | exact .inl ⟨of_decide_eq_true rfl, of_decide_eq_true rfl⟩ | exact .inr ⟨of_decide_eq_true rfl, of_decide_eq_true rfl⟩ | exact ⟨by omega, by omega⟩)); conv => whnf)
  refine ⟨7, rfl, by decide, by decide, fun j j0 j1 => ?_⟩
  conv => whnf
  repeat ((with_reducible refine And.intro ?_ ?_); (focus (first | omega | rfl | exact True.intro | exact ⟨rfl, rfl⟩ | exact .inl rfl | exact of_decide_eq_true rfl | exact ⟨rfl, of_decide_eq_true rfl⟩ | decide | assumption | exact .inl ⟨of_decide_eq_true rfl, of_decide_eq_true rfl⟩ | exact .inr ⟨of_decide_eq_true rfl, of_decide_eq_true rfl⟩ | exact ⟨by omega, by omega⟩)); conv => whnf)
  refine ite_d (fun e => ?_) (fun e => ?_)
  · conv => whnf
    repeat ((with_reducible refine And.intro ?_ ?_); (focus (first | omega | rfl | exact True.intro | exact ⟨rfl, rfl⟩ | exact .inl rfl | exact of_decide_eq_true rfl | exact ⟨rfl, of_decide_eq_true rfl⟩ | decide | assumption | exact .inl ⟨of_decide_eq_true rfl, of_decide_eq_true rfl⟩ | exact .inr ⟨of_decide_eq_true rfl, of_decide_eq_true rfl⟩ | exact ⟨by omega, by omega⟩)); conv => whnf)
    refine pick_ok (by simp) (by decide) fun d hd => ?_
    exact h d (okV_up0 (by revert d; decide +kernel))
  conv => whnf
  repeat ((with_reducible refine And.intro ?_ ?_); (focus (first | omega | rfl | exact True.intro | exact ⟨rfl, rfl⟩ | exact .inl rfl | exact of_decide_eq_true rfl | exact ⟨rfl, of_decide_eq_true rfl⟩ | decide | assumption | exact .inl ⟨of_decide_eq_true rfl, of_decide_eq_true rfl⟩ | exact .inr ⟨of_decide_eq_true rfl, of_decide_eq_true rfl⟩ | exact ⟨by omega, by omega⟩)); conv => whnf)
  refine ite_d (fun e2 => ?_) (fun e2 => ?_)
  · conv => whnf
    repeat ((with_reducible refine And.intro ?_ ?_); (focus (first | omega | rfl | exact True.intro | exact ⟨rfl, rfl⟩ | exact .inl rfl | exact of_decide_eq_true rfl | exact ⟨rfl, of_decide_eq_true rfl⟩ | decide | assumption | exact .inl ⟨of_decide_eq_true rfl, of_decide_eq_true rfl⟩ | exact .inr ⟨of_decide_eq_true rfl, of_decide_eq_true rfl⟩ | exact ⟨by omega, by omega⟩)); conv => whnf)
    refine pick_ok (by simp) (by decide) fun d hd => ?_
    exact h d (okV_up0 (by revert d; decide +kernel))
  conv => whnf
  repeat ((with_reducible refine And.intro ?_ ?_); (focus (first | omega | rfl | exact True.intro | exact ⟨rfl, rfl⟩ | exact .inl rfl | exact of_decide_eq_true rfl | exact ⟨rfl, of_decide_eq_true rfl⟩ | decide | assumption | exact .inl ⟨of_decide_eq_true rfl, of_decide_eq_true rfl⟩ | exact .inr ⟨of_decide_eq_true rfl, of_decide_eq_true rfl⟩ | exact ⟨by omega, by omega⟩)); conv => whnf)
  refine ite_d (fun e3 => ?_) (fun e3 => ?_)
  · conv => whnf
    repeat ((with_reducible refine And.intro ?_ ?_); (focus (first | omega | rfl | exact True.intro | exact ⟨rfl, rfl⟩ | exact .inl rfl | exact of_decide_eq_true rfl | exact ⟨rfl, of_decide_eq_true rfl⟩ | decide | assumption | exact .inl ⟨of_decide_eq_true rfl, of_decide_eq_true rfl⟩ | exact .inr ⟨of_decide_eq_true rfl, of_decide_eq_true rfl⟩ | exact ⟨by omega, by omega⟩)); conv => whnf)
    refine pick_ok (by simp) (by decide) fun d hd => ?_
    exact h d (okV_up0 (by revert d; decide +kernel))
  conv => whnf
  repeat ((with_reducible refine And.intro ?_ ?_); (focus (first | omega | rfl | exact True.intro | exact ⟨rfl, rfl⟩ | exact .inl rfl | exact of_decide_eq_true rfl | exact ⟨rfl, of_decide_eq_true rfl⟩ | decide | assumption | exact .inl ⟨of_decide_eq_true rfl, of_decide_eq_true rfl⟩ | exact .inr ⟨of_decide_eq_true rfl, of_decide_eq_true rfl⟩ | exact ⟨by omega, by omega⟩)); conv => whnf)
  refine ⟨4, rfl, by decide, by decide, fun i i0 i1 => ?_⟩
  conv => whnf
  repeat ((with_reducible refine And.intro ?_ ?_); (focus (first | omega | rfl | exact True.intro | exact ⟨rfl, rfl⟩ | exact .inl rfl | exact of_decide_eq_true rfl | exact ⟨rfl, of_decide_eq_true rfl⟩ | decide | assumption | exact .inl ⟨of_decide_eq_true rfl, of_decide_eq_true rfl⟩ | exact .inr ⟨of_decide_eq_true rfl, of_decide_eq_true rfl⟩ | exact ⟨by omega, by omega⟩)); conv => whnf)
  refine compA (fun d => okV 1 d = true) (by rw [upTo_len]; omega) (fun d k' hd hk => ?_) fun vs hl hv => ?_
  · conv => whnf
    repeat ((with_reducible refine And.intro ?_ ?_); (focus (first | omega | rfl | exact True.intro | exact ⟨rfl, rfl⟩ | exact .inl rfl | exact of_decide_eq_true rfl | exact ⟨rfl, of_decide_eq_true rfl⟩ | decide | assumption | exact .inl ⟨of_decide_eq_true rfl, of_decide_eq_true rfl⟩ | exact .inr ⟨of_decide_eq_true rfl, of_decide_eq_true rfl⟩ | exact ⟨by omega, by omega⟩)); conv => whnf)
    refine value_1 fun v hv => ?_
    conv => whnf
    repeat ((with_reducible refine And.intro ?_ ?_); (focus (first | omega | rfl | exact True.intro | exact ⟨rfl, rfl⟩ | exact .inl rfl | exact of_decide_eq_true rfl | exact ⟨rfl, of_decide_eq_true rfl⟩ | decide | assumption | exact .inl ⟨of_decide_eq_true rfl, of_decide_eq_true rfl⟩ | exact .inr ⟨of_decide_eq_true rfl, of_decide_eq_true rfl⟩ | exact ⟨by omega, by omega⟩)); conv => whnf)
    exact hk v hv
  · have hl2 : vs.length ≤ 100 := by rw [hl, upTo_len]; omega
    conv => whnf
    repeat ((with_reducible refine And.intro ?_ ?_); (focus (first | omega | rfl | exact True.intro | exact ⟨rfl, rfl⟩ | exact .inl rfl | exact of_decide_eq_true rfl | exact ⟨rfl, of_decide_eq_true rfl⟩ | decide | assumption | exact .inl ⟨of_decide_eq_true rfl, of_decide_eq_true rfl⟩ | exact .inr ⟨of_decide_eq_true rfl, of_decide_eq_true rfl⟩ | exact ⟨by omega, by omega⟩)); conv => whnf)
    refine ite_d (fun h2 => ?_) (fun h2 => ?_)
    · conv => whnf
      repeat ((with_reducible refine And.intro ?_ ?_); (focus (first | omega | rfl | exact True.intro | exact ⟨rfl, rfl⟩ | exact .inl rfl | exact of_decide_eq_true rfl | exact ⟨rfl, of_decide_eq_true rfl⟩ | decide | assumption | exact .inl ⟨of_decide_eq_true rfl, of_decide_eq_true rfl⟩ | exact .inr ⟨of_decide_eq_true rfl, of_decide_eq_true rfl⟩ | exact ⟨by omega, by omega⟩)); conv => whnf)
      exact h (.lst vs) (okV_lst hl2 hv)
    · conv => whnf
      repeat ((with_reducible refine And.intro ?_ ?_); (focus (first | omega | rfl | exact True.intro | exact ⟨rfl, rfl⟩ | exact .inl rfl | exact of_decide_eq_true rfl | exact ⟨rfl, of_decide_eq_true rfl⟩ | decide | assumption | exact .inl ⟨of_decide_eq_true rfl, of_decide_eq_true rfl⟩ | exact .inr ⟨of_decide_eq_true rfl, of_decide_eq_true rfl⟩ | exact ⟨by omega, by omega⟩)); conv => whnf)
      exact h (.tup vs) (okV_tup hl2 hv)
theorem value_3 (h : ∀ d, okV 3 d = true → kd d) : sm__law_value [.src, .int 3] kd kx := by
  have hs := sizeLine_eq
  unfold sm__law_value
  refine ⟨rfl, ?_⟩
  conv => whnf
  repeat ((with_reducible refine And.intro ?_ ?_); (focus (first | omega | rfl | exact True.intro | exact ⟨rfl, rfl⟩ | exact .inl rfl | exact of_decide_eq_true rfl | exact ⟨rfl, of_decide_eq_true rfl⟩ | decide | assumption | exact .inl ⟨of_decide_eq_true rfl, of_decide_eq_true rfl⟩ | exact .inr ⟨of_decide_eq_true rfl, of_decide_eq_true rfl⟩ | exact ⟨by omega, by omega⟩)); conv => whnf)
  refine ⟨7, rfl, by decide, by decide, fun j j0 j1 => ?_⟩
  conv => whnf
  repeat ((with_reducible refine And.intro ?_ ?_); (focus (first | omega | rfl | exact True.intro | exact ⟨rfl, rfl⟩ | exact .inl rfl | exact of_decide_eq_true rfl | exact ⟨rfl, of_decide_eq_true rfl⟩ | decide | assumption | exact .inl ⟨of_decide_eq_true rfl, of_decide_eq_true rfl⟩ | exact .inr ⟨of_decide_eq_true rfl, of_decide_eq_true rfl⟩ | exact ⟨by omega, by omega⟩)); conv => whnf)
  refine ite_d (fun e => ?_) (fun e => ?_)
  · conv => whnf
    repeat ((with_reducible refine And.intro ?_ ?_); (focus (first | omega | rfl | exact True.intro | exact ⟨rfl, rfl⟩ | exact .inl rfl | exact of_decide_eq_true rfl | exact ⟨rfl, of_decide_eq_true rfl⟩ | decide | assumption | exact .inl ⟨of_decide_eq_true rfl, of_decide_eq_true rfl⟩ | exact .inr ⟨of_decide_eq_true rfl, of_decide_eq_true rfl⟩ | exact ⟨by omega, by omega⟩)); conv => whnf)
    refine pick_ok (by simp) (by decide) fun d hd => ?_
    exact h d (okV_up0 (by revert d; decide +kernel))
  conv => whnf
  repeat ((with_reducible refine And.intro ?_ ?_); (focus (first | omega | rfl | exact True.intro | exact ⟨rfl, rfl⟩ | exact .inl rfl | exact of_decide_eq_true rfl | exact ⟨rfl, of_decide_eq_true rfl⟩ | decide | assumption | exact .inl ⟨of_decide_eq_true rfl, of_decide_eq_true rfl⟩ | exact .inr ⟨of_decide_eq_true rfl, of_decide_eq_true rfl⟩ | exact ⟨by omega, by omega⟩)); conv => whnf)
  refine ite_d (fun e2 => ?_) (fun e2 => ?_)
  · conv => whnf
    repeat ((with_reducible refine And.intro ?_ ?_); (focus (first | omega | rfl | exact True.intro | exact ⟨rfl, rfl⟩ | exact .inl rfl | exact of_decide_eq_true rfl | exact ⟨rfl, of_decide_eq_true rfl⟩ | decide | assumption | exact .inl ⟨of_decide_eq_true rfl, of_decide_eq_true rfl⟩ | exact .inr ⟨of_decide_eq_true rfl, of_decide_eq_true rfl⟩ | exact ⟨by omega, by omega⟩)); conv => whnf)
    refine pick_ok (by simp) (by decide) fun d hd => ?_
    exact h d (okV_up0 (by revert d; decide +kernel))
  conv => whnf
  repeat ((with_reducible refine And.intro ?_ ?_); (focus (first | omega | rfl | exact True.intro | exact ⟨rfl, rfl⟩ | exact .inl rfl | exact of_decide_eq_true rfl | exact ⟨rfl, of_decide_eq_true rfl⟩ | decide | assumption | exact .inl ⟨of_decide_eq_true rfl, of_decide_eq_true rfl⟩ | exact .inr ⟨of_decide_eq_true rfl, of_decide_eq_true rfl⟩ | exact ⟨by omega, by omega⟩)); conv => whnf)
  refine ite_d (fun e3 => ?_) (fun e3 => ?_)
  · conv => whnf
    repeat ((with_reducible refine And.intro ?_ ?_); (focus (first | omega | rfl | exact True.intro | exact ⟨rfl, rfl⟩ | exact .inl rfl | exact of_decide_eq_true rfl | exact ⟨rfl, of_decide_eq_true rfl⟩ | decide | assumption | exact .inl ⟨of_decide_eq_true rfl, of_decide_eq_true rfl⟩ | exact .inr ⟨of_decide_eq_true rfl, of_decide_eq_true rfl⟩ | exact ⟨by omega, by omega⟩)); conv => whnf)
    refine pick_ok (by simp) (by decide) fun d hd => ?_
    exact h d (okV_up0 (by revert d; decide +kernel))
  conv => whnf
  repeat ((with_reducible refine And.intro ?_ ?_); (focus (first | omega | rfl | exact True.intro | exact ⟨rfl, rfl⟩ | exact .inl rfl | exact of_decide_eq_true rfl | exact ⟨rfl, of_decide_eq_true rfl⟩ | decide | assumption | exact .inl ⟨of_decide_eq_true rfl, of_decide_eq_true rfl⟩ | exact .inr ⟨of_decide_eq_true rfl, of_decide_eq_true rfl⟩ | exact ⟨by omega, by omega⟩)); conv => whnf)
  refine ⟨4, rfl, by decide, by decide, fun i i0 i1 => ?_⟩
  conv => whnf
  repeat ((with_reducible refine And.intro ?_ ?_); (focus (first | omega | rfl | exact True.intro | exact ⟨rfl, rfl⟩ | exact .inl rfl | exact of_decide_eq_true rfl | exact ⟨rfl, of_decide_eq_true rfl⟩ | decide | assumption | exact .inl ⟨of_decide_eq_true rfl, of_decide_eq_true rfl⟩ | exact .inr ⟨of_decide_eq_true rfl, of_decide_eq_true rfl⟩ | exact ⟨by omega, by omega⟩)); conv => whnf)
  refine compA (fun d => okV 2 d = true) (by rw [upTo_len]; omega) (fun d k' hd hk => ?_) fun vs hl hv => ?_
  · conv => whnf
    repeat ((with_reducible refine And.intro ?_ ?_); (focus (first | omega | rfl | exact True.intro | exact ⟨rfl, rfl⟩ | exact .inl rfl | exact of_decide_eq_true rfl | exact ⟨rfl, of_decide_eq_true rfl⟩ | decide | assumption | exact .inl ⟨of_decide_eq_true rfl, of_decide_eq_true rfl⟩ | exact .inr ⟨of_decide_eq_true rfl, of_decide_eq_true rfl⟩ | exact ⟨by omega, by omega⟩)); conv => whnf)
    refine value_2 fun v hv => ?_
    conv => whnf
    repeat ((with_reducible refine And.intro ?_ ?_); (focus (first | omega | rfl | exact True.intro | exact ⟨rfl, rfl⟩ | exact .inl rfl | exact of_decide_eq_true rfl | exact ⟨rfl, of_decide_eq_true rfl⟩ | decide | assumption | exact .inl ⟨of_decide_eq_true rfl, of_decide_eq_true rfl⟩ | exact .inr ⟨of_decide_eq_true rfl, of_decide_eq_true rfl⟩ | exact ⟨by omega, by omega⟩)); conv => whnf)
    exact hk v hv
  · have hl2 : vs.length ≤ 100 := by rw [hl, upTo_len]; omega
    conv => whnf
    repeat ((with_reducible refine And.intro ?_ ?_); (focus (first | omega | rfl | exact True.intro | exact ⟨rfl, rfl⟩ | exact .inl rfl | exact of_decide_eq_true rfl | exact ⟨rfl, of_decide_eq_true rfl⟩ | decide | assumption | exact .inl ⟨of_decide_eq_true rfl, of_decide_eq_true rfl⟩ | exact .inr ⟨of_decide_eq_true rfl, of_decide_eq_true rfl⟩ | exact ⟨by omega, by omega⟩)); conv => whnf)
    refine ite_d (fun h2 => ?_) (fun h2 => ?_)
    · conv => whnf
      repeat ((with_reducible refine And.intro ?_ ?_); (focus (first | omega | rfl | exact True.intro | exact ⟨rfl, rfl⟩ | exact .inl rfl | exact of_decide_eq_true rfl | exact ⟨rfl, of_decide_eq_true rfl⟩ | decide | assumption | exact .inl ⟨of_decide_eq_true rfl, of_decide_eq_true rfl⟩ | exact .inr ⟨of_decide_eq_true rfl, of_decide_eq_true rfl⟩ | exact ⟨by omega, by omega⟩)); conv => whnf)
      exact h (.lst vs) (okV_lst hl2 hv)
    · conv => whnf
      repeat ((with_reducible refine And.intro ?_ ?_); (focus (first | omega | rfl | exact True.intro | exact ⟨rfl, rfl⟩ | exact .inl rfl | exact of_decide_eq_true rfl | exact ⟨rfl, of_decide_eq_true rfl⟩ | decide | assumption | exact .inl ⟨of_decide_eq_true rfl, of_decide_eq_true rfl⟩ | exact .inr ⟨of_decide_eq_true rfl, of_decide_eq_true rfl⟩ | exact ⟨by omega, by omega⟩)); conv => whnf)
      exact h (.tup vs) (okV_tup hl2 hv)
end
end Lw

set_option Elab.async false
set_option linter.all false
set_option maxRecDepth 100000
set_option maxHeartbeats 0
set_option pp.maxSteps 400
namespace Lw
open PySem PySem.Spec PyProof.Rows L2 DL
/-! rows made or refused, of any values -/
def rowX (w : Str) : DX := ⟨"InvalidRow", ["word"], [.str w]⟩
inductive Ar where
  | run (o t : D) | lead (ts o t : D) | join (h c t : D)
def wrA : Ar → Option Str
  | .run o t => if oldB o = true then (if nmB t = true then none else some "then") else some "old"
  | .lead ts o t => if testsB ts = true then (if oldB o = true then (if nmB t = true then none else some "then") else some "old") else some "tests"
  | .join h c t => if oldB h = true then (if oldB c = true then (if joinB t = true then none else some "then") else some "came") else some "here"
def arO : Ar → D
  | .run o t => runO o t
  | .lead ts o t => leadO ts o t
  | .join h c t => joinO h c t
/-- what a row's class says of arguments -/
def arR (kd : D → Prop) (kx : DX → Prop) (a : Ar) : Prop := match wrA a with
  | none => kd (arO a)
  | some w => kx (rowX w)
section
variable {kd : D → Prop} {kx : DX → Prop}
theorem run_x {o t : D} (ho : topD o = true) (ht : topD t = true) (h : arR kd kx (.run o t)) : sm_Run___init__ [o, t] kd kx := by
  unfold arR wrA at h
  dsimp only at h
  cases bo : oldB o with
  | false =>
    rw [bo] at h
    unfold sm_Run___init__
    refine ⟨rfl, ?_⟩
    conv => whnf
    repeat ((with_reducible refine And.intro ?_ ?_); (focus (first | omega | rfl | exact True.intro | exact ⟨rfl, rfl⟩ | exact .inl rfl | exact of_decide_eq_true rfl | exact ⟨rfl, of_decide_eq_true rfl⟩ | decide | assumption | exact .inl ⟨of_decide_eq_true rfl, of_decide_eq_true rfl⟩ | exact .inr ⟨of_decide_eq_true rfl, of_decide_eq_true rfl⟩ | exact ⟨by omega, by omega⟩)); conv => whnf)
    refine is_old_t ho ?_
    rw [bo]
    conv => whnf
    repeat ((with_reducible refine And.intro ?_ ?_); (focus (first | omega | rfl | exact True.intro | exact ⟨rfl, rfl⟩ | exact .inl rfl | exact of_decide_eq_true rfl | exact ⟨rfl, of_decide_eq_true rfl⟩ | decide | assumption | exact .inl ⟨of_decide_eq_true rfl, of_decide_eq_true rfl⟩ | exact .inr ⟨of_decide_eq_true rfl, of_decide_eq_true rfl⟩ | exact ⟨by omega, by omega⟩)); conv => whnf)
    exact h
  | true =>
    rw [bo] at h
    cases bt : nmB t with
    | false =>
      rw [bt] at h
      unfold sm_Run___init__
      refine ⟨rfl, ?_⟩
      conv => whnf
      repeat ((with_reducible refine And.intro ?_ ?_); (focus (first | omega | rfl | exact True.intro | exact ⟨rfl, rfl⟩ | exact .inl rfl | exact of_decide_eq_true rfl | exact ⟨rfl, of_decide_eq_true rfl⟩ | decide | assumption | exact .inl ⟨of_decide_eq_true rfl, of_decide_eq_true rfl⟩ | exact .inr ⟨of_decide_eq_true rfl, of_decide_eq_true rfl⟩ | exact ⟨by omega, by omega⟩)); conv => whnf)
      refine is_old_t ho ?_
      rw [bo]
      conv => whnf
      repeat ((with_reducible refine And.intro ?_ ?_); (focus (first | omega | rfl | exact True.intro | exact ⟨rfl, rfl⟩ | exact .inl rfl | exact of_decide_eq_true rfl | exact ⟨rfl, of_decide_eq_true rfl⟩ | decide | assumption | exact .inl ⟨of_decide_eq_true rfl, of_decide_eq_true rfl⟩ | exact .inr ⟨of_decide_eq_true rfl, of_decide_eq_true rfl⟩ | exact ⟨by omega, by omega⟩)); conv => whnf)
      refine is_name_t ht ?_
      rw [bt]
      conv => whnf
      repeat ((with_reducible refine And.intro ?_ ?_); (focus (first | omega | rfl | exact True.intro | exact ⟨rfl, rfl⟩ | exact .inl rfl | exact of_decide_eq_true rfl | exact ⟨rfl, of_decide_eq_true rfl⟩ | decide | assumption | exact .inl ⟨of_decide_eq_true rfl, of_decide_eq_true rfl⟩ | exact .inr ⟨of_decide_eq_true rfl, of_decide_eq_true rfl⟩ | exact ⟨by omega, by omega⟩)); conv => whnf)
      exact h
    | true =>
      rw [bt] at h
      exact run_g ho ht bo bt h
theorem join_x {o c t : D} (ho : topD o = true) (hc : topD c = true) (ht : topD t = true) (h : arR kd kx (.join o c t)) : sm_Join___init__ [o, c, t] kd kx := by
  unfold arR wrA at h
  dsimp only at h
  cases bo : oldB o with
  | false =>
    rw [bo] at h
    unfold sm_Join___init__
    refine ⟨rfl, ?_⟩
    conv => whnf
    repeat ((with_reducible refine And.intro ?_ ?_); (focus (first | omega | rfl | exact True.intro | exact ⟨rfl, rfl⟩ | exact .inl rfl | exact of_decide_eq_true rfl | exact ⟨rfl, of_decide_eq_true rfl⟩ | decide | assumption | exact .inl ⟨of_decide_eq_true rfl, of_decide_eq_true rfl⟩ | exact .inr ⟨of_decide_eq_true rfl, of_decide_eq_true rfl⟩ | exact ⟨by omega, by omega⟩)); conv => whnf)
    refine is_old_t ho ?_
    rw [bo]
    conv => whnf
    repeat ((with_reducible refine And.intro ?_ ?_); (focus (first | omega | rfl | exact True.intro | exact ⟨rfl, rfl⟩ | exact .inl rfl | exact of_decide_eq_true rfl | exact ⟨rfl, of_decide_eq_true rfl⟩ | decide | assumption | exact .inl ⟨of_decide_eq_true rfl, of_decide_eq_true rfl⟩ | exact .inr ⟨of_decide_eq_true rfl, of_decide_eq_true rfl⟩ | exact ⟨by omega, by omega⟩)); conv => whnf)
    exact h
  | true =>
    rw [bo] at h
    cases bc : oldB c with
    | false =>
      rw [bc] at h
      unfold sm_Join___init__
      refine ⟨rfl, ?_⟩
      conv => whnf
      repeat ((with_reducible refine And.intro ?_ ?_); (focus (first | omega | rfl | exact True.intro | exact ⟨rfl, rfl⟩ | exact .inl rfl | exact of_decide_eq_true rfl | exact ⟨rfl, of_decide_eq_true rfl⟩ | decide | assumption | exact .inl ⟨of_decide_eq_true rfl, of_decide_eq_true rfl⟩ | exact .inr ⟨of_decide_eq_true rfl, of_decide_eq_true rfl⟩ | exact ⟨by omega, by omega⟩)); conv => whnf)
      refine is_old_t ho ?_
      rw [bo]
      conv => whnf
      repeat ((with_reducible refine And.intro ?_ ?_); (focus (first | omega | rfl | exact True.intro | exact ⟨rfl, rfl⟩ | exact .inl rfl | exact of_decide_eq_true rfl | exact ⟨rfl, of_decide_eq_true rfl⟩ | decide | assumption | exact .inl ⟨of_decide_eq_true rfl, of_decide_eq_true rfl⟩ | exact .inr ⟨of_decide_eq_true rfl, of_decide_eq_true rfl⟩ | exact ⟨by omega, by omega⟩)); conv => whnf)
      refine is_old_t hc ?_
      rw [bc]
      conv => whnf
      repeat ((with_reducible refine And.intro ?_ ?_); (focus (first | omega | rfl | exact True.intro | exact ⟨rfl, rfl⟩ | exact .inl rfl | exact of_decide_eq_true rfl | exact ⟨rfl, of_decide_eq_true rfl⟩ | decide | assumption | exact .inl ⟨of_decide_eq_true rfl, of_decide_eq_true rfl⟩ | exact .inr ⟨of_decide_eq_true rfl, of_decide_eq_true rfl⟩ | exact ⟨by omega, by omega⟩)); conv => whnf)
      exact h
    | true =>
      rw [bc] at h
      cases bt : joinB t with
      | true =>
        rw [bt] at h
        exact join_g ho hc ht bo bc bt h
      | false =>
        rw [bt] at h
        obtain ⟨b1, b2⟩ := Bool.or_eq_false_iff.mp (show (nmB t || wordB ["here", "came"] t) = false from bt)
        unfold sm_Join___init__
        refine ⟨rfl, ?_⟩
        conv => whnf
        repeat ((with_reducible refine And.intro ?_ ?_); (focus (first | omega | rfl | exact True.intro | exact ⟨rfl, rfl⟩ | exact .inl rfl | exact of_decide_eq_true rfl | exact ⟨rfl, of_decide_eq_true rfl⟩ | decide | assumption | exact .inl ⟨of_decide_eq_true rfl, of_decide_eq_true rfl⟩ | exact .inr ⟨of_decide_eq_true rfl, of_decide_eq_true rfl⟩ | exact ⟨by omega, by omega⟩)); conv => whnf)
        refine is_old_t ho ?_
        rw [bo]
        conv => whnf
        repeat ((with_reducible refine And.intro ?_ ?_); (focus (first | omega | rfl | exact True.intro | exact ⟨rfl, rfl⟩ | exact .inl rfl | exact of_decide_eq_true rfl | exact ⟨rfl, of_decide_eq_true rfl⟩ | decide | assumption | exact .inl ⟨of_decide_eq_true rfl, of_decide_eq_true rfl⟩ | exact .inr ⟨of_decide_eq_true rfl, of_decide_eq_true rfl⟩ | exact ⟨by omega, by omega⟩)); conv => whnf)
        refine is_old_t hc ?_
        rw [bc]
        conv => whnf
        repeat ((with_reducible refine And.intro ?_ ?_); (focus (first | omega | rfl | exact True.intro | exact ⟨rfl, rfl⟩ | exact .inl rfl | exact of_decide_eq_true rfl | exact ⟨rfl, of_decide_eq_true rfl⟩ | decide | assumption | exact .inl ⟨of_decide_eq_true rfl, of_decide_eq_true rfl⟩ | exact .inr ⟨of_decide_eq_true rfl, of_decide_eq_true rfl⟩ | exact ⟨by omega, by omega⟩)); conv => whnf)
        refine is_name_t ht ?_
        rw [b1]
        conv => whnf
        repeat ((with_reducible refine And.intro ?_ ?_); (focus (first | omega | rfl | exact True.intro | exact ⟨rfl, rfl⟩ | exact .inl rfl | exact of_decide_eq_true rfl | exact ⟨rfl, of_decide_eq_true rfl⟩ | decide | assumption | exact .inl ⟨of_decide_eq_true rfl, of_decide_eq_true rfl⟩ | exact .inr ⟨of_decide_eq_true rfl, of_decide_eq_true rfl⟩ | exact ⟨by omega, by omega⟩)); conv => whnf)
        refine is_word_t (ws := ["here", "came"]) ht ?_
        rw [b2]
        conv => whnf
        repeat ((with_reducible refine And.intro ?_ ?_); (focus (first | omega | rfl | exact True.intro | exact ⟨rfl, rfl⟩ | exact .inl rfl | exact of_decide_eq_true rfl | exact ⟨rfl, of_decide_eq_true rfl⟩ | decide | assumption | exact .inl ⟨of_decide_eq_true rfl, of_decide_eq_true rfl⟩ | exact .inr ⟨of_decide_eq_true rfl, of_decide_eq_true rfl⟩ | exact ⟨by omega, by omega⟩)); conv => whnf)
        exact h
theorem lead_x {ts o t : D} (hts : topD ts = true) (hl : (itsOf ts).length < 1000000) (hi : ∀ x ∈ itsOf ts, topD x = true) (ho : topD o = true) (ht : topD t = true) (h : arR kd kx (.lead ts o t)) : sm_Lead___init__ [ts, o, t] kd kx := by
  unfold arR wrA at h
  dsimp only at h
  cases bs : testsB ts with
  | false =>
    rw [bs] at h
    unfold sm_Lead___init__
    refine ⟨rfl, ?_⟩
    conv => whnf
    repeat ((with_reducible refine And.intro ?_ ?_); (focus (first | omega | rfl | exact True.intro | exact ⟨rfl, rfl⟩ | exact .inl rfl | exact of_decide_eq_true rfl | exact ⟨rfl, of_decide_eq_true rfl⟩ | decide | assumption | exact .inl ⟨of_decide_eq_true rfl, of_decide_eq_true rfl⟩ | exact .inr ⟨of_decide_eq_true rfl, of_decide_eq_true rfl⟩ | exact ⟨by omega, by omega⟩)); conv => whnf)
    refine are_tests_t hts hl hi ?_
    rw [bs]
    conv => whnf
    repeat ((with_reducible refine And.intro ?_ ?_); (focus (first | omega | rfl | exact True.intro | exact ⟨rfl, rfl⟩ | exact .inl rfl | exact of_decide_eq_true rfl | exact ⟨rfl, of_decide_eq_true rfl⟩ | decide | assumption | exact .inl ⟨of_decide_eq_true rfl, of_decide_eq_true rfl⟩ | exact .inr ⟨of_decide_eq_true rfl, of_decide_eq_true rfl⟩ | exact ⟨by omega, by omega⟩)); conv => whnf)
    exact h
  | true =>
    rw [bs] at h
    cases bo : oldB o with
    | false =>
      rw [bo] at h
      unfold sm_Lead___init__
      refine ⟨rfl, ?_⟩
      conv => whnf
      repeat ((with_reducible refine And.intro ?_ ?_); (focus (first | omega | rfl | exact True.intro | exact ⟨rfl, rfl⟩ | exact .inl rfl | exact of_decide_eq_true rfl | exact ⟨rfl, of_decide_eq_true rfl⟩ | decide | assumption | exact .inl ⟨of_decide_eq_true rfl, of_decide_eq_true rfl⟩ | exact .inr ⟨of_decide_eq_true rfl, of_decide_eq_true rfl⟩ | exact ⟨by omega, by omega⟩)); conv => whnf)
      refine are_tests_t hts hl hi ?_
      rw [bs]
      conv => whnf
      repeat ((with_reducible refine And.intro ?_ ?_); (focus (first | omega | rfl | exact True.intro | exact ⟨rfl, rfl⟩ | exact .inl rfl | exact of_decide_eq_true rfl | exact ⟨rfl, of_decide_eq_true rfl⟩ | decide | assumption | exact .inl ⟨of_decide_eq_true rfl, of_decide_eq_true rfl⟩ | exact .inr ⟨of_decide_eq_true rfl, of_decide_eq_true rfl⟩ | exact ⟨by omega, by omega⟩)); conv => whnf)
      refine is_old_t ho ?_
      rw [bo]
      conv => whnf
      repeat ((with_reducible refine And.intro ?_ ?_); (focus (first | omega | rfl | exact True.intro | exact ⟨rfl, rfl⟩ | exact .inl rfl | exact of_decide_eq_true rfl | exact ⟨rfl, of_decide_eq_true rfl⟩ | decide | assumption | exact .inl ⟨of_decide_eq_true rfl, of_decide_eq_true rfl⟩ | exact .inr ⟨of_decide_eq_true rfl, of_decide_eq_true rfl⟩ | exact ⟨by omega, by omega⟩)); conv => whnf)
      exact h
    | true =>
      rw [bo] at h
      cases bt : nmB t with
      | true =>
        rw [bt] at h
        exact lead_g hts hl hi ho ht bs bo bt h
      | false =>
        rw [bt] at h
        unfold sm_Lead___init__
        refine ⟨rfl, ?_⟩
        conv => whnf
        repeat ((with_reducible refine And.intro ?_ ?_); (focus (first | omega | rfl | exact True.intro | exact ⟨rfl, rfl⟩ | exact .inl rfl | exact of_decide_eq_true rfl | exact ⟨rfl, of_decide_eq_true rfl⟩ | decide | assumption | exact .inl ⟨of_decide_eq_true rfl, of_decide_eq_true rfl⟩ | exact .inr ⟨of_decide_eq_true rfl, of_decide_eq_true rfl⟩ | exact ⟨by omega, by omega⟩)); conv => whnf)
        refine are_tests_t hts hl hi ?_
        rw [bs]
        conv => whnf
        repeat ((with_reducible refine And.intro ?_ ?_); (focus (first | omega | rfl | exact True.intro | exact ⟨rfl, rfl⟩ | exact .inl rfl | exact of_decide_eq_true rfl | exact ⟨rfl, of_decide_eq_true rfl⟩ | decide | assumption | exact .inl ⟨of_decide_eq_true rfl, of_decide_eq_true rfl⟩ | exact .inr ⟨of_decide_eq_true rfl, of_decide_eq_true rfl⟩ | exact ⟨by omega, by omega⟩)); conv => whnf)
        refine is_old_t ho ?_
        rw [bo]
        conv => whnf
        repeat ((with_reducible refine And.intro ?_ ?_); (focus (first | omega | rfl | exact True.intro | exact ⟨rfl, rfl⟩ | exact .inl rfl | exact of_decide_eq_true rfl | exact ⟨rfl, of_decide_eq_true rfl⟩ | decide | assumption | exact .inl ⟨of_decide_eq_true rfl, of_decide_eq_true rfl⟩ | exact .inr ⟨of_decide_eq_true rfl, of_decide_eq_true rfl⟩ | exact ⟨by omega, by omega⟩)); conv => whnf)
        refine is_name_t ht ?_
        rw [bt]
        conv => whnf
        repeat ((with_reducible refine And.intro ?_ ?_); (focus (first | omega | rfl | exact True.intro | exact ⟨rfl, rfl⟩ | exact .inl rfl | exact of_decide_eq_true rfl | exact ⟨rfl, of_decide_eq_true rfl⟩ | decide | assumption | exact .inl ⟨of_decide_eq_true rfl, of_decide_eq_true rfl⟩ | exact .inr ⟨of_decide_eq_true rfl, of_decide_eq_true rfl⟩ | exact ⟨by omega, by omega⟩)); conv => whnf)
        exact h
end
end Lw

set_option Elab.async false
set_option linter.all false
set_option maxRecDepth 100000
set_option maxHeartbeats 0
set_option pp.maxSteps 400
namespace Lw
open PySem PySem.Spec PyProof.Rows L2 DL
def arL : Ar → List D
  | .run o t => [.str "run", o, t]
  | .lead ts o t => [.str "lead", ts, o, t]
  | .join h c t => [.str "join", h, c, t]
def okA (a : Ar) : Prop := ∀ d ∈ (arL a).drop 1, okV 5 d = true
def optS : Option Str → D
  | none => .non
  | some w => .str w
section
variable {kd : D → Prop} {kx : DX → Prop}
theorem made_x {a : Ar} {s : D} (ha : okA a) (hs : s = .lst (arL a) ∨ s = .tup (arL a)) (h : arR kd kx a) : sm__law_made [s] kd kx := by
  unfold sm__law_made
  refine ⟨rfl, ?_⟩
  cases a with
  | run o t =>
    have h1 := okV_top (ha o (by simp [arL]))
    have h2 := okV_top (ha t (by simp [arL]))
    rcases hs with rfl | rfl
    all_goals
      conv => whnf
      repeat ((with_reducible refine And.intro ?_ ?_); (focus (first | omega | rfl | exact True.intro | exact ⟨rfl, rfl⟩ | exact .inl rfl | exact of_decide_eq_true rfl | exact ⟨rfl, of_decide_eq_true rfl⟩ | decide | assumption | exact .inl ⟨of_decide_eq_true rfl, of_decide_eq_true rfl⟩ | exact .inr ⟨of_decide_eq_true rfl, of_decide_eq_true rfl⟩ | exact ⟨by omega, by omega⟩)); conv => whnf)
      refine run_x h1 h2 ?_
      exact h
  | lead ts o t =>
    have h0 := ha ts (by simp [arL])
    have h1 := okV_top (ha o (by simp [arL]))
    have h2 := okV_top (ha t (by simp [arL]))
    obtain ⟨g1, g2⟩ := okV_its h0
    rcases hs with rfl | rfl
    all_goals
      conv => whnf
      repeat ((with_reducible refine And.intro ?_ ?_); (focus (first | omega | rfl | exact True.intro | exact ⟨rfl, rfl⟩ | exact .inl rfl | exact of_decide_eq_true rfl | exact ⟨rfl, of_decide_eq_true rfl⟩ | decide | assumption | exact .inl ⟨of_decide_eq_true rfl, of_decide_eq_true rfl⟩ | exact .inr ⟨of_decide_eq_true rfl, of_decide_eq_true rfl⟩ | exact ⟨by omega, by omega⟩)); conv => whnf)
      refine lead_x (okV_top h0) (by omega) (fun x hx => okV_top (g2 x hx)) h1 h2 ?_
      exact h
  | join b c t =>
    have h0 := okV_top (ha b (by simp [arL]))
    have h1 := okV_top (ha c (by simp [arL]))
    have h2 := okV_top (ha t (by simp [arL]))
    rcases hs with rfl | rfl
    all_goals
      conv => whnf
      repeat ((with_reducible refine And.intro ?_ ?_); (focus (first | omega | rfl | exact True.intro | exact ⟨rfl, rfl⟩ | exact .inl rfl | exact of_decide_eq_true rfl | exact ⟨rfl, of_decide_eq_true rfl⟩ | decide | assumption | exact .inl ⟨of_decide_eq_true rfl, of_decide_eq_true rfl⟩ | exact .inr ⟨of_decide_eq_true rfl, of_decide_eq_true rfl⟩ | exact ⟨by omega, by omega⟩)); conv => whnf)
      refine join_x h0 h1 h2 ?_
      exact h
theorem told_t {a : Ar} {s : D} (ha : okA a) (hs : s = .lst (arL a) ∨ s = .tup (arL a)) (h : kd (optS (wrA a))) : sm__law_told [s] kd kx := by
  unfold sm__law_told
  refine ⟨rfl, ?_⟩
  conv => whnf
  repeat ((with_reducible refine And.intro ?_ ?_); (focus (first | omega | rfl | exact True.intro | exact ⟨rfl, rfl⟩ | exact .inl rfl | exact of_decide_eq_true rfl | exact ⟨rfl, of_decide_eq_true rfl⟩ | decide | assumption | exact .inl ⟨of_decide_eq_true rfl, of_decide_eq_true rfl⟩ | exact .inr ⟨of_decide_eq_true rfl, of_decide_eq_true rfl⟩ | exact ⟨by omega, by omega⟩)); conv => whnf)
  refine made_x ha hs ?_
  unfold arR
  cases hw : wrA a with
  | none =>
    rw [hw] at h
    conv => whnf
    repeat ((with_reducible refine And.intro ?_ ?_); (focus (first | omega | rfl | exact True.intro | exact ⟨rfl, rfl⟩ | exact .inl rfl | exact of_decide_eq_true rfl | exact ⟨rfl, of_decide_eq_true rfl⟩ | decide | assumption | exact .inl ⟨of_decide_eq_true rfl, of_decide_eq_true rfl⟩ | exact .inr ⟨of_decide_eq_true rfl, of_decide_eq_true rfl⟩ | exact ⟨by omega, by omega⟩)); conv => whnf)
    exact h
  | some w =>
    rw [hw] at h
    conv => whnf
    repeat ((with_reducible refine And.intro ?_ ?_); (focus (first | omega | rfl | exact True.intro | exact ⟨rfl, rfl⟩ | exact .inl rfl | exact of_decide_eq_true rfl | exact ⟨rfl, of_decide_eq_true rfl⟩ | decide | assumption | exact .inl ⟨of_decide_eq_true rfl, of_decide_eq_true rfl⟩ | exact .inr ⟨of_decide_eq_true rfl, of_decide_eq_true rfl⟩ | exact ⟨by omega, by omega⟩)); conv => whnf)
    exact h
end
/-! ### texts -/
theorem cut_pre (z : Str) : TL.tl (cutS z none (some 4)) = (TL.tl z).take 4 ∧ TL.tl (cutS z (some 4) none) = (TL.tl z).drop 4 := by
  have e1 : HT.sIx z.length z.length (some 4) = min 4 z.length := rfl
  have e2 : HT.sIx z.length 0 (some 4) = min 4 z.length := rfl
  constructor
  · show ((TL.tl z).drop 0).take (min 4 z.length - 0) = _
    rw [List.drop_zero, Nat.sub_zero, TL.len_tl]
    rcases Nat.le_total 4 (TL.tl z).length with h | h
    · rw [Nat.min_eq_left h]
    · rw [Nat.min_eq_right h, List.take_length, List.take_of_length_le h]
  · show ((TL.tl z).drop (min 4 z.length)).take (z.length - min 4 z.length) = _
    rw [TL.len_tl]
    rcases Nat.le_total 4 (TL.tl z).length with h | h
    · rw [Nat.min_eq_left h, List.take_of_length_le (by rw [List.length_drop]; omega)]
    · rw [Nat.min_eq_right h, List.drop_eq_nil_of_le (Nat.le_refl _), List.drop_eq_nil_of_le h]; simp
theorem part_cut (z : Str) : (if cutS z none (some 4) = ("not " : Str) then cutS z (some 4) none else z) = partS z := by
  have key : (cutS z none (some 4) = ("not " : Str)) ↔ Builtin.Str.subAt z "not " 0 = true := by
    rw [PySem.StrLaws.subAt_eq]
    rw [show ((("not " : String) : Str)).length = 4 from rfl, List.drop_zero]
    rw [beq_iff_eq]
    constructor
    · intro e
      have := congrArg TL.tl e
      rw [(cut_pre z).1] at this
      exact this
    · intro e
      refine TL.ext_tl ?_
      rw [(cut_pre z).1]
      exact e
  unfold partS Txt.removeprefix
  by_cases h : cutS z none (some 4) = ("not " : Str)
  · rw [if_pos h, if_pos (key.mp h)]
    have hl := PySem.StrLaws.subAt_zero_le (key.mp h)
    have hl : 4 ≤ z.length := hl
    show _ = (if (z.length - 4 == z.length) = true then z else Builtin.Str.strSub z 4 z.length)
    rw [if_neg (by simp; omega)]
    refine TL.ext_tl ?_
    rw [(cut_pre z).2, TL.tl_strSub_end]
  · rw [if_neg h, if_neg fun e => h (key.mpr e)]
    rfl
end Lw

set_option Elab.async false
set_option linter.all false
set_option maxRecDepth 100000
set_option maxHeartbeats 0
set_option pp.maxSteps 400
namespace Lw
open PySem PySem.Spec PyProof.Rows L2 DL
section
variable {kd : D → Prop} {kx : DX → Prop}
theorem law_name_no {d : D} (hd : (match d with | .non | .bl _ | .int _ | .lst _ | .tup _ => true | _ => false) = true) (h : kd (.bl false)) : sm__law_is_name [d] kd kx := by
  unfold sm__law_is_name
  refine ⟨rfl, ?_⟩
  cases d <;> first
    | cases hd; done
    | skip
  all_goals
    conv => whnf
    repeat ((with_reducible refine And.intro ?_ ?_); (focus (first | omega | rfl | exact True.intro | exact ⟨rfl, rfl⟩ | exact .inl rfl | exact of_decide_eq_true rfl | exact ⟨rfl, of_decide_eq_true rfl⟩ | decide | assumption | exact .inl ⟨of_decide_eq_true rfl, of_decide_eq_true rfl⟩ | exact .inr ⟨of_decide_eq_true rfl, of_decide_eq_true rfl⟩ | exact ⟨by omega, by omega⟩)); conv => whnf)
    exact h
theorem law_name_s {z : Str} (hz : z.length ≤ 100) (hy : PyData.canLay0 (.str z) = true) (h : kd (.bl (nameB z))) : sm__law_is_name [.str z] kd kx := by
  have hs := sizeLine_eq
  unfold nameB at h
  unfold sm__law_is_name
  refine ⟨rfl, ?_⟩
  conv => whnf
  repeat ((with_reducible refine And.intro ?_ ?_); (focus (first | omega | rfl | exact True.intro | exact ⟨rfl, rfl⟩ | exact .inl rfl | exact of_decide_eq_true rfl | exact ⟨rfl, of_decide_eq_true rfl⟩ | decide | assumption | exact .inl ⟨of_decide_eq_true rfl, of_decide_eq_true rfl⟩ | exact .inr ⟨of_decide_eq_true rfl, of_decide_eq_true rfl⟩ | exact ⟨by omega, by omega⟩)); conv => whnf)
  refine ite_d (fun h1 => ?_) (fun h1 => ?_)
  · rw [h1] at h
    conv => whnf
    repeat ((with_reducible refine And.intro ?_ ?_); (focus (first | omega | rfl | exact True.intro | exact ⟨rfl, rfl⟩ | exact .inl rfl | exact of_decide_eq_true rfl | exact ⟨rfl, of_decide_eq_true rfl⟩ | decide | assumption | exact .inl ⟨of_decide_eq_true rfl, of_decide_eq_true rfl⟩ | exact .inr ⟨of_decide_eq_true rfl, of_decide_eq_true rfl⟩ | exact ⟨by omega, by omega⟩)); conv => whnf)
    refine ite_d (fun h2 => ?_) (fun h2 => ?_)
    · rw [show decide ((z.length : Int) ≤ 4) = false by simpa using h2] at h
      conv => whnf
      repeat ((with_reducible refine And.intro ?_ ?_); (focus (first | omega | rfl | exact True.intro | exact ⟨rfl, rfl⟩ | exact .inl rfl | exact of_decide_eq_true rfl | exact ⟨rfl, of_decide_eq_true rfl⟩ | decide | assumption | exact .inl ⟨of_decide_eq_true rfl, of_decide_eq_true rfl⟩ | exact .inr ⟨of_decide_eq_true rfl, of_decide_eq_true rfl⟩ | exact ⟨by omega, by omega⟩)); conv => whnf)
      exact h
    · rw [show decide ((z.length : Int) ≤ 4) = true by simpa using h2] at h
      conv => whnf
      repeat ((with_reducible refine And.intro ?_ ?_); (focus (first | omega | rfl | exact True.intro | exact ⟨rfl, rfl⟩ | exact .inl rfl | exact of_decide_eq_true rfl | exact ⟨rfl, of_decide_eq_true rfl⟩ | decide | assumption | exact .inl ⟨of_decide_eq_true rfl, of_decide_eq_true rfl⟩ | exact .inr ⟨of_decide_eq_true rfl, of_decide_eq_true rfl⟩ | exact ⟨by omega, by omega⟩)); conv => whnf)
      refine ite_d (fun h3 => ?_) (fun h3 => ?_)
      · rw [show inBar z = true from h3] at h
        conv => whnf
        repeat ((with_reducible refine And.intro ?_ ?_); (focus (first | omega | rfl | exact True.intro | exact ⟨rfl, rfl⟩ | exact .inl rfl | exact of_decide_eq_true rfl | exact ⟨rfl, of_decide_eq_true rfl⟩ | decide | assumption | exact .inl ⟨of_decide_eq_true rfl, of_decide_eq_true rfl⟩ | exact .inr ⟨of_decide_eq_true rfl, of_decide_eq_true rfl⟩ | exact ⟨by omega, by omega⟩)); conv => whnf)
        exact h
      · rw [show inBar z = false by simpa using (show ¬ inBar z = true from h3)] at h
        conv => whnf
        repeat ((with_reducible refine And.intro ?_ ?_); (focus (first | omega | rfl | exact True.intro | exact ⟨rfl, rfl⟩ | exact .inl rfl | exact of_decide_eq_true rfl | exact ⟨rfl, of_decide_eq_true rfl⟩ | decide | assumption | exact .inl ⟨of_decide_eq_true rfl, of_decide_eq_true rfl⟩ | exact .inr ⟨of_decide_eq_true rfl, of_decide_eq_true rfl⟩ | exact ⟨by omega, by omega⟩)); conv => whnf)
        refine compF (l := chars z) (fun d => if oneS d = true then none else some d) (by rw [chars_len]; omega) (fun d k' hd hk => ?_) ?_
        · obtain ⟨c, _, rfl⟩ := List.mem_map.mp hd
          conv => whnf
          repeat ((with_reducible refine And.intro ?_ ?_); (focus (first | omega | rfl | exact True.intro | exact ⟨rfl, rfl⟩ | exact .inl rfl | exact of_decide_eq_true rfl | exact ⟨rfl, of_decide_eq_true rfl⟩ | decide | assumption | exact .inl ⟨of_decide_eq_true rfl, of_decide_eq_true rfl⟩ | exact .inr ⟨of_decide_eq_true rfl, of_decide_eq_true rfl⟩ | exact ⟨by omega, by omega⟩)); conv => whnf)
          refine ite_d (fun h4 => ?_) (fun h4 => ?_)
          · have h4 : (!oneS (.str ⟨#[c]⟩)) = true := h4
            have h4 : oneS (.str ⟨#[c]⟩) = false := by simpa using h4
            rw [h4] at hk
            conv => whnf
            repeat ((with_reducible refine And.intro ?_ ?_); (focus (first | omega | rfl | exact True.intro | exact ⟨rfl, rfl⟩ | exact .inl rfl | exact of_decide_eq_true rfl | exact ⟨rfl, of_decide_eq_true rfl⟩ | decide | assumption | exact .inl ⟨of_decide_eq_true rfl, of_decide_eq_true rfl⟩ | exact .inr ⟨of_decide_eq_true rfl, of_decide_eq_true rfl⟩ | exact ⟨by omega, by omega⟩)); conv => whnf)
            exact hk
          · have h4 : ¬ (!oneS (.str ⟨#[c]⟩)) = true := h4
            have h4 : oneS (.str ⟨#[c]⟩) = true := by simpa using h4
            rw [h4] at hk
            exact hk
        · rw [badC_eq]
          conv => whnf
          repeat ((with_reducible refine And.intro ?_ ?_); (focus (first | omega | rfl | exact True.intro | exact ⟨rfl, rfl⟩ | exact .inl rfl | exact of_decide_eq_true rfl | exact ⟨rfl, of_decide_eq_true rfl⟩ | decide | assumption | exact .inl ⟨of_decide_eq_true rfl, of_decide_eq_true rfl⟩ | exact .inr ⟨of_decide_eq_true rfl, of_decide_eq_true rfl⟩ | exact ⟨by omega, by omega⟩)); conv => whnf)
          refine ⟨_, _, toPy_lst (g := fun c => D.str ⟨#[c]⟩) (h := fun c => PyData.str ⟨#[c]⟩) (fun x _ => rfl), rfl, shape_lst (badC_lay hy), rfl, ?_⟩
          conv => whnf
          repeat ((with_reducible refine And.intro ?_ ?_); (focus (first | omega | rfl | exact True.intro | exact ⟨rfl, rfl⟩ | exact .inl rfl | exact of_decide_eq_true rfl | exact ⟨rfl, of_decide_eq_true rfl⟩ | decide | assumption | exact .inl ⟨of_decide_eq_true rfl, of_decide_eq_true rfl⟩ | exact .inr ⟨of_decide_eq_true rfl, of_decide_eq_true rfl⟩ | exact ⟨by omega, by omega⟩)); conv => whnf)
          rw [badC_all] at h
          refine kd_bl ?_ h
          rw [eqv_nil]
          cases badC z <;> rfl
  · rw [show decide (1 ≤ (z.length : Int)) = false by simpa using h1] at h
    conv => whnf
    repeat ((with_reducible refine And.intro ?_ ?_); (focus (first | omega | rfl | exact True.intro | exact ⟨rfl, rfl⟩ | exact .inl rfl | exact of_decide_eq_true rfl | exact ⟨rfl, of_decide_eq_true rfl⟩ | decide | assumption | exact .inl ⟨of_decide_eq_true rfl, of_decide_eq_true rfl⟩ | exact .inr ⟨of_decide_eq_true rfl, of_decide_eq_true rfl⟩ | exact ⟨by omega, by omega⟩)); conv => whnf)
    exact h
theorem law_name_t {d : D} (hd : topD d = true) (h : kd (.bl (nmB d))) : sm__law_is_name [d] kd kx := by
  cases d with
  | str z => exact law_name_s (top_len hd) (Bool.and_eq_true_iff.mp hd).2 h
  | non => exact law_name_no rfl h
  | bl _ => exact law_name_no rfl h
  | int _ => exact law_name_no rfl h
  | lst _ => exact law_name_no rfl h
  | tup _ => exact law_name_no rfl h
  | _ => cases hd
theorem law_fit_t {d : D} {ws : List Str} (hd : topD d = true) (h : kd (.bl (nmB d || wordB ws d))) : sm__law_is_fit [d, .lst (ws.map D.str)] kd kx := by
  have hf := flat_strs ws
  unfold sm__law_is_fit
  refine ⟨rfl, ?_⟩
  conv => whnf
  repeat ((with_reducible refine And.intro ?_ ?_); (focus (first | omega | rfl | exact True.intro | exact ⟨rfl, rfl⟩ | exact .inl rfl | exact of_decide_eq_true rfl | exact ⟨rfl, of_decide_eq_true rfl⟩ | decide | assumption | exact .inl ⟨of_decide_eq_true rfl, of_decide_eq_true rfl⟩ | exact .inr ⟨of_decide_eq_true rfl, of_decide_eq_true rfl⟩ | exact ⟨by omega, by omega⟩)); conv => whnf)
  refine law_name_t hd ?_
  cases hn : nmB d with
  | true =>
    rw [hn] at h
    conv => whnf
    repeat ((with_reducible refine And.intro ?_ ?_); (focus (first | omega | rfl | exact True.intro | exact ⟨rfl, rfl⟩ | exact .inl rfl | exact of_decide_eq_true rfl | exact ⟨rfl, of_decide_eq_true rfl⟩ | decide | assumption | exact .inl ⟨of_decide_eq_true rfl, of_decide_eq_true rfl⟩ | exact .inr ⟨of_decide_eq_true rfl, of_decide_eq_true rfl⟩ | exact ⟨by omega, by omega⟩)); conv => whnf)
    exact h
  | false =>
    rw [hn] at h
    cases d with
    | str z =>
      conv => whnf
      repeat ((with_reducible refine And.intro ?_ ?_); (focus (first | omega | rfl | exact True.intro | exact ⟨rfl, rfl⟩ | exact .inl rfl | exact of_decide_eq_true rfl | exact ⟨rfl, of_decide_eq_true rfl⟩ | decide | assumption | exact .inl ⟨of_decide_eq_true rfl, of_decide_eq_true rfl⟩ | exact .inr ⟨of_decide_eq_true rfl, of_decide_eq_true rfl⟩ | exact ⟨by omega, by omega⟩)); conv => whnf)
      exact h
    | non =>
      conv => whnf
      repeat ((with_reducible refine And.intro ?_ ?_); (focus (first | omega | rfl | exact True.intro | exact ⟨rfl, rfl⟩ | exact .inl rfl | exact of_decide_eq_true rfl | exact ⟨rfl, of_decide_eq_true rfl⟩ | decide | assumption | exact .inl ⟨of_decide_eq_true rfl, of_decide_eq_true rfl⟩ | exact .inr ⟨of_decide_eq_true rfl, of_decide_eq_true rfl⟩ | exact ⟨by omega, by omega⟩)); conv => whnf)
      exact h
    | bl _ =>
      conv => whnf
      repeat ((with_reducible refine And.intro ?_ ?_); (focus (first | omega | rfl | exact True.intro | exact ⟨rfl, rfl⟩ | exact .inl rfl | exact of_decide_eq_true rfl | exact ⟨rfl, of_decide_eq_true rfl⟩ | decide | assumption | exact .inl ⟨of_decide_eq_true rfl, of_decide_eq_true rfl⟩ | exact .inr ⟨of_decide_eq_true rfl, of_decide_eq_true rfl⟩ | exact ⟨by omega, by omega⟩)); conv => whnf)
      exact h
    | int _ =>
      conv => whnf
      repeat ((with_reducible refine And.intro ?_ ?_); (focus (first | omega | rfl | exact True.intro | exact ⟨rfl, rfl⟩ | exact .inl rfl | exact of_decide_eq_true rfl | exact ⟨rfl, of_decide_eq_true rfl⟩ | decide | assumption | exact .inl ⟨of_decide_eq_true rfl, of_decide_eq_true rfl⟩ | exact .inr ⟨of_decide_eq_true rfl, of_decide_eq_true rfl⟩ | exact ⟨by omega, by omega⟩)); conv => whnf)
      exact h
    | lst _ =>
      conv => whnf
      repeat ((with_reducible refine And.intro ?_ ?_); (focus (first | omega | rfl | exact True.intro | exact ⟨rfl, rfl⟩ | exact .inl rfl | exact of_decide_eq_true rfl | exact ⟨rfl, of_decide_eq_true rfl⟩ | decide | assumption | exact .inl ⟨of_decide_eq_true rfl, of_decide_eq_true rfl⟩ | exact .inr ⟨of_decide_eq_true rfl, of_decide_eq_true rfl⟩ | exact ⟨by omega, by omega⟩)); conv => whnf)
      exact h
    | tup _ =>
      conv => whnf
      repeat ((with_reducible refine And.intro ?_ ?_); (focus (first | omega | rfl | exact True.intro | exact ⟨rfl, rfl⟩ | exact .inl rfl | exact of_decide_eq_true rfl | exact ⟨rfl, of_decide_eq_true rfl⟩ | decide | assumption | exact .inl ⟨of_decide_eq_true rfl, of_decide_eq_true rfl⟩ | exact .inr ⟨of_decide_eq_true rfl, of_decide_eq_true rfl⟩ | exact ⟨by omega, by omega⟩)); conv => whnf)
      exact h
    | _ => cases hd
end
theorem toPys_len : ∀ {xs : List D} {ps : List PyData}, toPys xs = some ps → ps.length = xs.length
  | [], ps, h => by cases h; rfl
  | x :: xs, ps, h => by
    unfold toPys at h
    split at h
    · rename_i p qs e1 e2
      cases h
      simp [toPys_len e2]
    · cases h
/-- numbers of texts that stood before -/
def twB (zs : List Str) (i : Nat) : Bool := match zs[i]? with
  | some z => decide (z ∈ zs.take i)
  | none => false
theorem tw_nodup (zs : List Str) : (∀ i, i < zs.length → twB zs i = false) ↔ zs.Nodup := by
  unfold List.Nodup
  rw [List.pairwise_iff_getElem]
  constructor
  · intro h i j hi hj hij e
    have := h j hj
    unfold twB at this
    rw [List.getElem?_eq_getElem hj] at this
    have := of_decide_eq_false this
    refine this ?_
    rw [← e]
    exact List.mem_take_iff_getElem.mpr ⟨i, by omega, rfl⟩
  · intro nd i hi
    unfold twB
    rw [List.getElem?_eq_getElem hi]
    refine decide_eq_false fun hm => ?_
    obtain ⟨j, hj, e⟩ := List.mem_take_iff_getElem.mp hm
    exact nd j i (by omega) hi (by omega) e
section
variable {kd : D → Prop} {kx : DX → Prop}
def twD (zs : List Str) : D → Option D
  | .int i => if twB zs i.toNat = true then some (.int i) else none
  | _ => none
theorem all_str : ∀ {xs : List D}, xs.all strB = true → ∃ zs : List Str, xs = zs.map D.str
  | [], _ => ⟨[], rfl⟩
  | x :: xs, h => by
    obtain ⟨h1, h2⟩ := Bool.and_eq_true_iff.mp (show (strB x && xs.all strB) = true from h)
    obtain ⟨zs, rfl⟩ := all_str h2
    cases x with
    | str z => exact ⟨z :: zs, rfl⟩
    | _ => cases h1
theorem test_str {d : D} (h : testB d = true) : strB d = true := by
  cases d with
  | str z => rfl
  | _ => cases h
theorem fm_nil : ∀ {xs : List D}, (xs.filterMap fun d => if strB d = true then none else some d).isEmpty = xs.all strB
  | [] => rfl
  | x :: xs => by
    rw [List.filterMap_cons, List.all_cons]
    cases hb : strB x with
    | true => rw [if_pos rfl]; exact fm_nil
    | false => rw [if_neg (by simp)]; rfl
theorem ne_of_ok {fs : List D} {n : Nat} (hn : n ≤ 50) (h : ∀ x ∈ fs, okV n x = true) : ∃ ps, toPy (.lst fs) = some (.list ps) ∧ SeqAt.shaped (.list ps) = true ∧ ps.isEmpty = fs.isEmpty := by
  obtain ⟨ps, e, hp⟩ := toPys_ok (P := fun p => p.canLay0 = true ∧ p.depth ≤ n) (xs := fs) fun x hx => okV_py (h x hx)
  refine ⟨ps, by show (toPys fs).map PyData.list = _; rw [e]; rfl, ?_, ?_⟩
  · show (PyData.canLayAll0 ps && decide (PyData.depthAll ps + 1 ≤ 64)) = true
    have := depth_id fun p hq => (hp p hq).2
    rw [lay_id fun p hq => (hp p hq).1, decide_eq_true (by omega)]; rfl
  · have := toPys_len e
    cases ps <;> cases fs <;> first | rfl | (simp at this)
theorem int_list (l : List D) (h : ∀ d ∈ l, ∃ i : Int, d = .int i) : ∀ x ∈ l, okV 0 x = true := fun x hx => by
  obtain ⟨i, rfl⟩ := h x hx; rfl
def badB (z : Str) : Bool := wordB ["above", "below", "own"] (.str z)
theorem fm_bad : ∀ {zs : List Str}, ((zs.map D.str).filterMap fun d => if badB (strOf d) = true then none else some d).isEmpty = zs.all badB
  | [] => rfl
  | z :: zs => by
    rw [List.map_cons, List.filterMap_cons, List.all_cons, show strOf (D.str z) = z from rfl]
    cases hb : badB z with
    | true => rw [if_pos rfl]; exact fm_bad
    | false => rw [if_neg (by simp)]; rfl
theorem fm_tw {zs : List Str} : ((DL.upTo 0 zs.length).filterMap (twD zs)).isEmpty = decide zs.Nodup := by
  by_cases hn : zs.Nodup
  · rw [decide_eq_true hn]
    have h := (tw_nodup zs).mpr hn
    have : (DL.upTo 0 zs.length).filterMap (twD zs) = [] := by
      rw [List.filterMap_eq_nil_iff]
      intro d hd
      unfold DL.upTo at hd
      obtain ⟨i, hi, rfl⟩ := List.mem_map.mp hd
      have hi := List.mem_range.mp hi
      unfold twD
      dsimp only
      have e : ((0 : Int) + (i : Int)).toNat = i := by omega
      rw [e, h i hi]; rfl
    rw [this]; rfl
  · rw [decide_eq_false hn]
    have : ¬ ∀ i, i < zs.length → twB zs i = false := fun z => hn ((tw_nodup zs).mp z)
    cases hm : (DL.upTo 0 zs.length).filterMap (twD zs) with
    | cons _ _ => rfl
    | nil =>
      exfalso
      refine this fun i hi => ?_
      have := List.filterMap_eq_nil_iff.mp hm (.int (0 + (i : Int))) (List.mem_map.mpr ⟨i, List.mem_range.mpr hi, rfl⟩)
      unfold twD at this
      dsimp only at this
      have e : ((0 : Int) + (i : Int)).toNat = i := by omega
      rw [e] at this
      by_cases hb : twB zs i = true
      · rw [if_pos hb] at this; cases this
      · simpa using hb
theorem tests_rest {P : D} {zs : List Str} (hl : zs.length ≤ 100) (hz : ∀ z ∈ zs, okV 0 (.str z) = true) {kd : D → Prop} {kx : DX → Prop} {K : DEnds} (hK : K.rt = fun d _ => kd d) {a3 a4 : Option S} (h : kd (.bl (zs.all badB && decide zs.Nodup))) :
    dSeq (dS (TT__law_are_tests.at N__law_are_tests (defScope st__law_are_tests)) false kx 40) ((defBody st__law_are_tests).drop 2) [some (.fr P), some (.ow (.lst (zs.map D.str))), none, a3, a4] K := by
  have hs := sizeLine_eq
  have hl2 : (zs.map D.str).length ≤ 100 := by rw [List.length_map]; exact hl
  obtain ⟨knx, krt, kbk, kct⟩ := K
  cases hK
  conv => whnf
  repeat ((with_reducible refine And.intro ?_ ?_); (focus (first | omega | rfl | exact True.intro | exact ⟨rfl, rfl⟩ | exact .inl rfl | exact of_decide_eq_true rfl | exact ⟨rfl, of_decide_eq_true rfl⟩ | decide | assumption | exact .inl ⟨of_decide_eq_true rfl, of_decide_eq_true rfl⟩ | exact .inr ⟨of_decide_eq_true rfl, of_decide_eq_true rfl⟩ | exact ⟨by omega, by omega⟩)); conv => whnf)
  refine compF (twD zs) (by rw [upTo_len]; omega) (fun d k' hd hk => ?_) ?_
  · unfold DL.upTo at hd
    obtain ⟨i, hi, rfl⟩ := List.mem_map.mp hd
    have hi := List.mem_range.mp hi
    have hi : i < zs.length := by simpa using hi
    have e0 : ((0 : Int) + (i : Int)).toNat = i := by omega
    have e1 : atI (zs.map D.str) (0 + (i : Int)) = some (.str zs[i]) := by
      rw [atI_nat (by omega) (by rw [List.length_map]; omega), e0, List.getElem?_map, List.getElem?_eq_getElem hi]; rfl
    have e2 : cutL (zs.map D.str) none (some (0 + (i : Int))) = (zs.take i).map D.str := by
      rw [cut_take (by omega), e0, List.map_take]
    have hf := flat_strs (zs.take i)
    have e3 : twD zs (.int (0 + (i : Int))) = if decide (zs[i] ∈ zs.take i) = true then some (.int (0 + (i : Int))) else none := by
      unfold twD
      dsimp only
      unfold twB
      rw [e0, List.getElem?_eq_getElem hi]
    rw [e3, ← wordB_str] at hk
    conv => whnf
    repeat ((with_reducible refine And.intro ?_ ?_); (focus (first | omega | rfl | exact True.intro | exact ⟨rfl, rfl⟩ | exact .inl rfl | exact of_decide_eq_true rfl | exact ⟨rfl, of_decide_eq_true rfl⟩ | decide | assumption | exact .inl ⟨of_decide_eq_true rfl, of_decide_eq_true rfl⟩ | exact .inr ⟨of_decide_eq_true rfl, of_decide_eq_true rfl⟩ | exact ⟨by omega, by omega⟩)); conv => whnf)
    rw [e1]
    conv => whnf
    repeat ((with_reducible refine And.intro ?_ ?_); (focus (first | omega | rfl | exact True.intro | exact ⟨rfl, rfl⟩ | exact .inl rfl | exact of_decide_eq_true rfl | exact ⟨rfl, of_decide_eq_true rfl⟩ | decide | assumption | exact .inl ⟨of_decide_eq_true rfl, of_decide_eq_true rfl⟩ | exact .inr ⟨of_decide_eq_true rfl, of_decide_eq_true rfl⟩ | exact ⟨by omega, by omega⟩)); conv => whnf)
    rw [e2]
    conv => whnf
    repeat ((with_reducible refine And.intro ?_ ?_); (focus (first | omega | rfl | exact True.intro | exact ⟨rfl, rfl⟩ | exact .inl rfl | exact of_decide_eq_true rfl | exact ⟨rfl, of_decide_eq_true rfl⟩ | decide | assumption | exact .inl ⟨of_decide_eq_true rfl, of_decide_eq_true rfl⟩ | exact .inr ⟨of_decide_eq_true rfl, of_decide_eq_true rfl⟩ | exact ⟨by omega, by omega⟩)); conv => whnf)
    refine ite_d (fun h1 => ?_) (fun h1 => ?_)
    · have h1 : wordB (zs.take i) (.str zs[i]) = true := h1
      rw [if_pos h1] at hk
      conv => whnf
      repeat ((with_reducible refine And.intro ?_ ?_); (focus (first | omega | rfl | exact True.intro | exact ⟨rfl, rfl⟩ | exact .inl rfl | exact of_decide_eq_true rfl | exact ⟨rfl, of_decide_eq_true rfl⟩ | decide | assumption | exact .inl ⟨of_decide_eq_true rfl, of_decide_eq_true rfl⟩ | exact .inr ⟨of_decide_eq_true rfl, of_decide_eq_true rfl⟩ | exact ⟨by omega, by omega⟩)); conv => whnf)
      exact hk
    · have h1 : ¬ wordB (zs.take i) (.str zs[i]) = true := h1
      rw [if_neg h1] at hk
      exact hk
  · have e4 : (((zs.map D.str).length : Int)).toNat = zs.length := by simp
    obtain ⟨ps, e1, e2, e3⟩ := ne_of_ok (n := 0) (by decide) (fs := (DL.upTo 0 (((zs.map D.str).length : Int)).toNat).filterMap (twD zs)) fun x hx => by
      obtain ⟨y, hy, e⟩ := List.mem_filterMap.mp hx
      unfold twD at e
      split at e
      · split at e
        · cases e; rfl
        · cases e
      · cases e
    conv => whnf
    repeat ((with_reducible refine And.intro ?_ ?_); (focus (first | omega | rfl | exact True.intro | exact ⟨rfl, rfl⟩ | exact .inl rfl | exact of_decide_eq_true rfl | exact ⟨rfl, of_decide_eq_true rfl⟩ | decide | assumption | exact .inl ⟨of_decide_eq_true rfl, of_decide_eq_true rfl⟩ | exact .inr ⟨of_decide_eq_true rfl, of_decide_eq_true rfl⟩ | exact ⟨by omega, by omega⟩)); conv => whnf)
    refine ⟨_, _, e1, rfl, e2, rfl, ?_⟩
    rw [eqv_nil, e3, e4, fm_tw]
    cases hn : decide zs.Nodup with
    | false =>
      rw [hn, Bool.and_false] at h
      conv => whnf
      repeat ((with_reducible refine And.intro ?_ ?_); (focus (first | omega | rfl | exact True.intro | exact ⟨rfl, rfl⟩ | exact .inl rfl | exact of_decide_eq_true rfl | exact ⟨rfl, of_decide_eq_true rfl⟩ | decide | assumption | exact .inl ⟨of_decide_eq_true rfl, of_decide_eq_true rfl⟩ | exact .inr ⟨of_decide_eq_true rfl, of_decide_eq_true rfl⟩ | exact ⟨by omega, by omega⟩)); conv => whnf)
      exact h
    | true =>
      rw [hn, Bool.and_true] at h
      conv => whnf
      repeat ((with_reducible refine And.intro ?_ ?_); (focus (first | omega | rfl | exact True.intro | exact ⟨rfl, rfl⟩ | exact .inl rfl | exact of_decide_eq_true rfl | exact ⟨rfl, of_decide_eq_true rfl⟩ | decide | assumption | exact .inl ⟨of_decide_eq_true rfl, of_decide_eq_true rfl⟩ | exact .inr ⟨of_decide_eq_true rfl, of_decide_eq_true rfl⟩ | exact ⟨by omega, by omega⟩)); conv => whnf)
      refine compF (fun d => if badB (strOf d) = true then none else some d) (by omega) (fun d k' hd hk => ?_) ?_
      · obtain ⟨z, hz, rfl⟩ := List.mem_map.mp hd
        rw [show strOf (D.str z) = z from rfl] at hk
        conv => whnf
        repeat ((with_reducible refine And.intro ?_ ?_); (focus (first | omega | rfl | exact True.intro | exact ⟨rfl, rfl⟩ | exact .inl rfl | exact of_decide_eq_true rfl | exact ⟨rfl, of_decide_eq_true rfl⟩ | decide | assumption | exact .inl ⟨of_decide_eq_true rfl, of_decide_eq_true rfl⟩ | exact .inr ⟨of_decide_eq_true rfl, of_decide_eq_true rfl⟩ | exact ⟨by omega, by omega⟩)); conv => whnf)
        refine ite_d (fun h1 => ?_) (fun h1 => ?_)
        · have h1 : (!badB z) = true := h1
          rw [if_neg (by simpa using h1)] at hk
          conv => whnf
          repeat ((with_reducible refine And.intro ?_ ?_); (focus (first | omega | rfl | exact True.intro | exact ⟨rfl, rfl⟩ | exact .inl rfl | exact of_decide_eq_true rfl | exact ⟨rfl, of_decide_eq_true rfl⟩ | decide | assumption | exact .inl ⟨of_decide_eq_true rfl, of_decide_eq_true rfl⟩ | exact .inr ⟨of_decide_eq_true rfl, of_decide_eq_true rfl⟩ | exact ⟨by omega, by omega⟩)); conv => whnf)
          exact hk
        · have h1 : ¬ (!badB z) = true := h1
          rw [if_pos (by simpa using h1)] at hk
          exact hk
      · obtain ⟨ps, e1, e2, e3⟩ := ne_of_ok (n := 0) (by decide) (fs := (zs.map D.str).filterMap fun d => if badB (strOf d) = true then none else some d) fun x hx => by
          obtain ⟨y, hy, e⟩ := List.mem_filterMap.mp hx
          split at e
          · cases e
          · cases e
            obtain ⟨z, hz', rfl⟩ := List.mem_map.mp hy
            exact hz z hz'
        conv => whnf
        repeat ((with_reducible refine And.intro ?_ ?_); (focus (first | omega | rfl | exact True.intro | exact ⟨rfl, rfl⟩ | exact .inl rfl | exact of_decide_eq_true rfl | exact ⟨rfl, of_decide_eq_true rfl⟩ | decide | assumption | exact .inl ⟨of_decide_eq_true rfl, of_decide_eq_true rfl⟩ | exact .inr ⟨of_decide_eq_true rfl, of_decide_eq_true rfl⟩ | exact ⟨by omega, by omega⟩)); conv => whnf)
        refine ⟨_, _, e1, rfl, e2, rfl, ?_⟩
        rw [eqv_nil, e3, fm_bad]
        exact h
theorem part_ok {z : Str} (h : okV 4 (.str z) = true) : okV 0 (.str (partS z)) = true := by
  obtain ⟨h1, h2⟩ := Bool.and_eq_true_iff.mp (show (decide (z.length ≤ 100) && PyData.canLay0 (.str z)) = true from h)
  have h1 := of_decide_eq_true h1
  have key : ∀ q : Str, (∀ c ∈ TL.tl q, c ∈ TL.tl z) → q.length ≤ z.length → okV 0 (.str q) = true := fun q hc hq => by
    show (decide (q.length ≤ 100) && PyData.canLay0 (.str q)) = true
    rw [lay_sub h2 hc, decide_eq_true (by omega)]; rfl
  rw [← part_cut]
  split
  · refine key _ (fun c hc => ?_) ?_
    · rw [(cut_pre z).2] at hc
      exact List.mem_of_mem_drop hc
    · rw [TL.len_tl, (cut_pre z).2, List.length_drop, TL.len_tl]
      omega
  · exact key _ (fun c hc => hc) (Nat.le_refl _)
theorem tests_law_lst {xs : List D} (hl : xs.length ≤ 100) (hi : ∀ x ∈ xs, okV 4 x = true) (h : kd (.bl (testsB (.lst xs)))) : sm__law_are_tests [.lst xs] kd kx := by
  have hs := sizeLine_eq
  have h : kd (.bl (xs.all testB && decide (xs.map fun x => partS (strOf x)).Nodup)) := h
  unfold sm__law_are_tests
  refine ⟨rfl, ?_⟩
  refine seq_cut 2 (fun ρ => ∃ (zs : List Str), zs.length ≤ 100 ∧ (∀ z ∈ zs, okV 0 (.str z) = true) ∧ kd (.bl (zs.all badB && decide zs.Nodup)) ∧ ρ = [some (.fr (.lst xs)), some (.ow (.lst (zs.map D.str))), none, none, none]) ?_ ?_
  · intro kk hkk
    conv => whnf
    repeat ((with_reducible refine And.intro ?_ ?_); (focus (first | omega | rfl | exact True.intro | exact ⟨rfl, rfl⟩ | exact .inl rfl | exact of_decide_eq_true rfl | exact ⟨rfl, of_decide_eq_true rfl⟩ | decide | assumption | exact .inl ⟨of_decide_eq_true rfl, of_decide_eq_true rfl⟩ | exact .inr ⟨of_decide_eq_true rfl, of_decide_eq_true rfl⟩ | exact ⟨by omega, by omega⟩)); conv => whnf)
    refine compF (fun d => if strB d = true then none else some d) (by omega) (fun d k' hd hk => ?_) ?_
    · have ht := okV_top (hi d hd)
      cases d with
      | str z =>
        conv => whnf
        repeat ((with_reducible refine And.intro ?_ ?_); (focus (first | omega | rfl | exact True.intro | exact ⟨rfl, rfl⟩ | exact .inl rfl | exact of_decide_eq_true rfl | exact ⟨rfl, of_decide_eq_true rfl⟩ | decide | assumption | exact .inl ⟨of_decide_eq_true rfl, of_decide_eq_true rfl⟩ | exact .inr ⟨of_decide_eq_true rfl, of_decide_eq_true rfl⟩ | exact ⟨by omega, by omega⟩)); conv => whnf)
        exact hk
      | non =>
        conv => whnf
        repeat ((with_reducible refine And.intro ?_ ?_); (focus (first | omega | rfl | exact True.intro | exact ⟨rfl, rfl⟩ | exact .inl rfl | exact of_decide_eq_true rfl | exact ⟨rfl, of_decide_eq_true rfl⟩ | decide | assumption | exact .inl ⟨of_decide_eq_true rfl, of_decide_eq_true rfl⟩ | exact .inr ⟨of_decide_eq_true rfl, of_decide_eq_true rfl⟩ | exact ⟨by omega, by omega⟩)); conv => whnf)
        exact hk
      | bl _ =>
        conv => whnf
        repeat ((with_reducible refine And.intro ?_ ?_); (focus (first | omega | rfl | exact True.intro | exact ⟨rfl, rfl⟩ | exact .inl rfl | exact of_decide_eq_true rfl | exact ⟨rfl, of_decide_eq_true rfl⟩ | decide | assumption | exact .inl ⟨of_decide_eq_true rfl, of_decide_eq_true rfl⟩ | exact .inr ⟨of_decide_eq_true rfl, of_decide_eq_true rfl⟩ | exact ⟨by omega, by omega⟩)); conv => whnf)
        exact hk
      | int _ =>
        conv => whnf
        repeat ((with_reducible refine And.intro ?_ ?_); (focus (first | omega | rfl | exact True.intro | exact ⟨rfl, rfl⟩ | exact .inl rfl | exact of_decide_eq_true rfl | exact ⟨rfl, of_decide_eq_true rfl⟩ | decide | assumption | exact .inl ⟨of_decide_eq_true rfl, of_decide_eq_true rfl⟩ | exact .inr ⟨of_decide_eq_true rfl, of_decide_eq_true rfl⟩ | exact ⟨by omega, by omega⟩)); conv => whnf)
        exact hk
      | lst _ =>
        conv => whnf
        repeat ((with_reducible refine And.intro ?_ ?_); (focus (first | omega | rfl | exact True.intro | exact ⟨rfl, rfl⟩ | exact .inl rfl | exact of_decide_eq_true rfl | exact ⟨rfl, of_decide_eq_true rfl⟩ | decide | assumption | exact .inl ⟨of_decide_eq_true rfl, of_decide_eq_true rfl⟩ | exact .inr ⟨of_decide_eq_true rfl, of_decide_eq_true rfl⟩ | exact ⟨by omega, by omega⟩)); conv => whnf)
        exact hk
      | tup _ =>
        conv => whnf
        repeat ((with_reducible refine And.intro ?_ ?_); (focus (first | omega | rfl | exact True.intro | exact ⟨rfl, rfl⟩ | exact .inl rfl | exact of_decide_eq_true rfl | exact ⟨rfl, of_decide_eq_true rfl⟩ | decide | assumption | exact .inl ⟨of_decide_eq_true rfl, of_decide_eq_true rfl⟩ | exact .inr ⟨of_decide_eq_true rfl, of_decide_eq_true rfl⟩ | exact ⟨by omega, by omega⟩)); conv => whnf)
        exact hk
      | _ => cases ht
    obtain ⟨ps, e1, e2, e3⟩ := ne_of_ok (n := 4) (by decide) (fs := xs.filterMap fun d => if strB d = true then none else some d) fun x hx => by
      obtain ⟨y, hy, e⟩ := List.mem_filterMap.mp hx
      split at e
      · cases e
      · cases e; exact hi _ hy
    conv => whnf
    repeat ((with_reducible refine And.intro ?_ ?_); (focus (first | omega | rfl | exact True.intro | exact ⟨rfl, rfl⟩ | exact .inl rfl | exact of_decide_eq_true rfl | exact ⟨rfl, of_decide_eq_true rfl⟩ | decide | assumption | exact .inl ⟨of_decide_eq_true rfl, of_decide_eq_true rfl⟩ | exact .inr ⟨of_decide_eq_true rfl, of_decide_eq_true rfl⟩ | exact ⟨by omega, by omega⟩)); conv => whnf)
    refine ⟨_, _, e1, rfl, e2, rfl, ?_⟩
    rw [eqv_nil, e3, fm_nil]
    cases hb : xs.all strB with
    | false =>
      have : xs.all testB = false := by
        cases hc : xs.all testB with
        | false => rfl
        | true =>
          rw [← hb, List.all_eq_true.mpr fun x hx => test_str (List.all_eq_true.mp hc x hx)]
      rw [this] at h
      conv => whnf
      repeat ((with_reducible refine And.intro ?_ ?_); (focus (first | omega | rfl | exact True.intro | exact ⟨rfl, rfl⟩ | exact .inl rfl | exact of_decide_eq_true rfl | exact ⟨rfl, of_decide_eq_true rfl⟩ | decide | assumption | exact .inl ⟨of_decide_eq_true rfl, of_decide_eq_true rfl⟩ | exact .inr ⟨of_decide_eq_true rfl, of_decide_eq_true rfl⟩ | exact ⟨by omega, by omega⟩)); conv => whnf)
      exact h
    | true =>
      obtain ⟨zs, rfl⟩ := all_str hb
      conv => whnf
      repeat ((with_reducible refine And.intro ?_ ?_); (focus (first | omega | rfl | exact True.intro | exact ⟨rfl, rfl⟩ | exact .inl rfl | exact of_decide_eq_true rfl | exact ⟨rfl, of_decide_eq_true rfl⟩ | decide | assumption | exact .inl ⟨of_decide_eq_true rfl, of_decide_eq_true rfl⟩ | exact .inr ⟨of_decide_eq_true rfl, of_decide_eq_true rfl⟩ | exact ⟨by omega, by omega⟩)); conv => whnf)
      refine compM (fun d => .str (partS (strOf d))) (by omega) (fun d k' hd hk => ?_) ?_
      · obtain ⟨z, hz, rfl⟩ := List.mem_map.mp hd
        have hzl := top_len (okV_top (hi _ hd))
        have hk : k' (some (.str (partS z))) _ := hk
        rw [← part_cut] at hk
        conv => whnf
        repeat ((with_reducible refine And.intro ?_ ?_); (focus (first | omega | rfl | exact True.intro | exact ⟨rfl, rfl⟩ | exact .inl rfl | exact of_decide_eq_true rfl | exact ⟨rfl, of_decide_eq_true rfl⟩ | decide | assumption | exact .inl ⟨of_decide_eq_true rfl, of_decide_eq_true rfl⟩ | exact .inr ⟨of_decide_eq_true rfl, of_decide_eq_true rfl⟩ | exact ⟨by omega, by omega⟩)); conv => whnf)
        refine ite_d (fun h1 => ?_) (fun h1 => ?_)
        · have h1 := of_decide_eq_true h1
          rw [if_pos h1] at hk
          conv => whnf
          repeat ((with_reducible refine And.intro ?_ ?_); (focus (first | omega | rfl | exact True.intro | exact ⟨rfl, rfl⟩ | exact .inl rfl | exact of_decide_eq_true rfl | exact ⟨rfl, of_decide_eq_true rfl⟩ | decide | assumption | exact .inl ⟨of_decide_eq_true rfl, of_decide_eq_true rfl⟩ | exact .inr ⟨of_decide_eq_true rfl, of_decide_eq_true rfl⟩ | exact ⟨by omega, by omega⟩)); conv => whnf)
          exact hk
        · have h1 : ¬ _ := fun e => h1 (decide_eq_true e)
          rw [if_neg h1] at hk
          conv => whnf
          repeat ((with_reducible refine And.intro ?_ ?_); (focus (first | omega | rfl | exact True.intro | exact ⟨rfl, rfl⟩ | exact .inl rfl | exact of_decide_eq_true rfl | exact ⟨rfl, of_decide_eq_true rfl⟩ | decide | assumption | exact .inl ⟨of_decide_eq_true rfl, of_decide_eq_true rfl⟩ | exact .inr ⟨of_decide_eq_true rfl, of_decide_eq_true rfl⟩ | exact ⟨by omega, by omega⟩)); conv => whnf)
          exact hk
      · have e5 : ((zs.map D.str).map fun d => D.str (partS (strOf d))) = (zs.map partS).map D.str := by rw [List.map_map, List.map_map]; rfl
        rw [e5]
        refine hkk _ ⟨zs.map partS, by simpa using hl, fun z hz => ?_, ?_, rfl⟩
        · obtain ⟨y, hy, rfl⟩ := List.mem_map.mp hz
          exact part_ok (hi _ (List.mem_map.mpr ⟨y, hy, rfl⟩))
        · have e6 : (zs.map partS).all badB = (zs.map D.str).all testB := by rw [List.all_map, List.all_map]; rfl
          have e7 : ((zs.map D.str).map fun x => partS (strOf x)) = zs.map partS := by rw [List.map_map]; rfl
          rw [e6]
          rw [e7] at h
          exact h
  · rintro ρ ⟨zs, hl, hz, hk, rfl⟩
    exact tests_rest hl hz rfl hk
theorem tests_law_tup {xs : List D} (hl : xs.length ≤ 100) (hi : ∀ x ∈ xs, okV 4 x = true) (h : kd (.bl (testsB (.tup xs)))) : sm__law_are_tests [.tup xs] kd kx := by
  have hs := sizeLine_eq
  have h : kd (.bl (xs.all testB && decide (xs.map fun x => partS (strOf x)).Nodup)) := h
  unfold sm__law_are_tests
  refine ⟨rfl, ?_⟩
  refine seq_cut 2 (fun ρ => ∃ (zs : List Str), zs.length ≤ 100 ∧ (∀ z ∈ zs, okV 0 (.str z) = true) ∧ kd (.bl (zs.all badB && decide zs.Nodup)) ∧ ρ = [some (.fr (.tup xs)), some (.ow (.lst (zs.map D.str))), none, none, none]) ?_ ?_
  · intro kk hkk
    conv => whnf
    repeat ((with_reducible refine And.intro ?_ ?_); (focus (first | omega | rfl | exact True.intro | exact ⟨rfl, rfl⟩ | exact .inl rfl | exact of_decide_eq_true rfl | exact ⟨rfl, of_decide_eq_true rfl⟩ | decide | assumption | exact .inl ⟨of_decide_eq_true rfl, of_decide_eq_true rfl⟩ | exact .inr ⟨of_decide_eq_true rfl, of_decide_eq_true rfl⟩ | exact ⟨by omega, by omega⟩)); conv => whnf)
    refine compF (fun d => if strB d = true then none else some d) (by omega) (fun d k' hd hk => ?_) ?_
    · have ht := okV_top (hi d hd)
      cases d with
      | str z =>
        conv => whnf
        repeat ((with_reducible refine And.intro ?_ ?_); (focus (first | omega | rfl | exact True.intro | exact ⟨rfl, rfl⟩ | exact .inl rfl | exact of_decide_eq_true rfl | exact ⟨rfl, of_decide_eq_true rfl⟩ | decide | assumption | exact .inl ⟨of_decide_eq_true rfl, of_decide_eq_true rfl⟩ | exact .inr ⟨of_decide_eq_true rfl, of_decide_eq_true rfl⟩ | exact ⟨by omega, by omega⟩)); conv => whnf)
        exact hk
      | non =>
        conv => whnf
        repeat ((with_reducible refine And.intro ?_ ?_); (focus (first | omega | rfl | exact True.intro | exact ⟨rfl, rfl⟩ | exact .inl rfl | exact of_decide_eq_true rfl | exact ⟨rfl, of_decide_eq_true rfl⟩ | decide | assumption | exact .inl ⟨of_decide_eq_true rfl, of_decide_eq_true rfl⟩ | exact .inr ⟨of_decide_eq_true rfl, of_decide_eq_true rfl⟩ | exact ⟨by omega, by omega⟩)); conv => whnf)
        exact hk
      | bl _ =>
        conv => whnf
        repeat ((with_reducible refine And.intro ?_ ?_); (focus (first | omega | rfl | exact True.intro | exact ⟨rfl, rfl⟩ | exact .inl rfl | exact of_decide_eq_true rfl | exact ⟨rfl, of_decide_eq_true rfl⟩ | decide | assumption | exact .inl ⟨of_decide_eq_true rfl, of_decide_eq_true rfl⟩ | exact .inr ⟨of_decide_eq_true rfl, of_decide_eq_true rfl⟩ | exact ⟨by omega, by omega⟩)); conv => whnf)
        exact hk
      | int _ =>
        conv => whnf
        repeat ((with_reducible refine And.intro ?_ ?_); (focus (first | omega | rfl | exact True.intro | exact ⟨rfl, rfl⟩ | exact .inl rfl | exact of_decide_eq_true rfl | exact ⟨rfl, of_decide_eq_true rfl⟩ | decide | assumption | exact .inl ⟨of_decide_eq_true rfl, of_decide_eq_true rfl⟩ | exact .inr ⟨of_decide_eq_true rfl, of_decide_eq_true rfl⟩ | exact ⟨by omega, by omega⟩)); conv => whnf)
        exact hk
      | lst _ =>
        conv => whnf
        repeat ((with_reducible refine And.intro ?_ ?_); (focus (first | omega | rfl | exact True.intro | exact ⟨rfl, rfl⟩ | exact .inl rfl | exact of_decide_eq_true rfl | exact ⟨rfl, of_decide_eq_true rfl⟩ | decide | assumption | exact .inl ⟨of_decide_eq_true rfl, of_decide_eq_true rfl⟩ | exact .inr ⟨of_decide_eq_true rfl, of_decide_eq_true rfl⟩ | exact ⟨by omega, by omega⟩)); conv => whnf)
        exact hk
      | tup _ =>
        conv => whnf
        repeat ((with_reducible refine And.intro ?_ ?_); (focus (first | omega | rfl | exact True.intro | exact ⟨rfl, rfl⟩ | exact .inl rfl | exact of_decide_eq_true rfl | exact ⟨rfl, of_decide_eq_true rfl⟩ | decide | assumption | exact .inl ⟨of_decide_eq_true rfl, of_decide_eq_true rfl⟩ | exact .inr ⟨of_decide_eq_true rfl, of_decide_eq_true rfl⟩ | exact ⟨by omega, by omega⟩)); conv => whnf)
        exact hk
      | _ => cases ht
    obtain ⟨ps, e1, e2, e3⟩ := ne_of_ok (n := 4) (by decide) (fs := xs.filterMap fun d => if strB d = true then none else some d) fun x hx => by
      obtain ⟨y, hy, e⟩ := List.mem_filterMap.mp hx
      split at e
      · cases e
      · cases e; exact hi _ hy
    conv => whnf
    repeat ((with_reducible refine And.intro ?_ ?_); (focus (first | omega | rfl | exact True.intro | exact ⟨rfl, rfl⟩ | exact .inl rfl | exact of_decide_eq_true rfl | exact ⟨rfl, of_decide_eq_true rfl⟩ | decide | assumption | exact .inl ⟨of_decide_eq_true rfl, of_decide_eq_true rfl⟩ | exact .inr ⟨of_decide_eq_true rfl, of_decide_eq_true rfl⟩ | exact ⟨by omega, by omega⟩)); conv => whnf)
    refine ⟨_, _, e1, rfl, e2, rfl, ?_⟩
    rw [eqv_nil, e3, fm_nil]
    cases hb : xs.all strB with
    | false =>
      have : xs.all testB = false := by
        cases hc : xs.all testB with
        | false => rfl
        | true =>
          rw [← hb, List.all_eq_true.mpr fun x hx => test_str (List.all_eq_true.mp hc x hx)]
      rw [this] at h
      conv => whnf
      repeat ((with_reducible refine And.intro ?_ ?_); (focus (first | omega | rfl | exact True.intro | exact ⟨rfl, rfl⟩ | exact .inl rfl | exact of_decide_eq_true rfl | exact ⟨rfl, of_decide_eq_true rfl⟩ | decide | assumption | exact .inl ⟨of_decide_eq_true rfl, of_decide_eq_true rfl⟩ | exact .inr ⟨of_decide_eq_true rfl, of_decide_eq_true rfl⟩ | exact ⟨by omega, by omega⟩)); conv => whnf)
      exact h
    | true =>
      obtain ⟨zs, rfl⟩ := all_str hb
      conv => whnf
      repeat ((with_reducible refine And.intro ?_ ?_); (focus (first | omega | rfl | exact True.intro | exact ⟨rfl, rfl⟩ | exact .inl rfl | exact of_decide_eq_true rfl | exact ⟨rfl, of_decide_eq_true rfl⟩ | decide | assumption | exact .inl ⟨of_decide_eq_true rfl, of_decide_eq_true rfl⟩ | exact .inr ⟨of_decide_eq_true rfl, of_decide_eq_true rfl⟩ | exact ⟨by omega, by omega⟩)); conv => whnf)
      refine compM (fun d => .str (partS (strOf d))) (by omega) (fun d k' hd hk => ?_) ?_
      · obtain ⟨z, hz, rfl⟩ := List.mem_map.mp hd
        have hzl := top_len (okV_top (hi _ hd))
        have hk : k' (some (.str (partS z))) _ := hk
        rw [← part_cut] at hk
        conv => whnf
        repeat ((with_reducible refine And.intro ?_ ?_); (focus (first | omega | rfl | exact True.intro | exact ⟨rfl, rfl⟩ | exact .inl rfl | exact of_decide_eq_true rfl | exact ⟨rfl, of_decide_eq_true rfl⟩ | decide | assumption | exact .inl ⟨of_decide_eq_true rfl, of_decide_eq_true rfl⟩ | exact .inr ⟨of_decide_eq_true rfl, of_decide_eq_true rfl⟩ | exact ⟨by omega, by omega⟩)); conv => whnf)
        refine ite_d (fun h1 => ?_) (fun h1 => ?_)
        · have h1 := of_decide_eq_true h1
          rw [if_pos h1] at hk
          conv => whnf
          repeat ((with_reducible refine And.intro ?_ ?_); (focus (first | omega | rfl | exact True.intro | exact ⟨rfl, rfl⟩ | exact .inl rfl | exact of_decide_eq_true rfl | exact ⟨rfl, of_decide_eq_true rfl⟩ | decide | assumption | exact .inl ⟨of_decide_eq_true rfl, of_decide_eq_true rfl⟩ | exact .inr ⟨of_decide_eq_true rfl, of_decide_eq_true rfl⟩ | exact ⟨by omega, by omega⟩)); conv => whnf)
          exact hk
        · have h1 : ¬ _ := fun e => h1 (decide_eq_true e)
          rw [if_neg h1] at hk
          conv => whnf
          repeat ((with_reducible refine And.intro ?_ ?_); (focus (first | omega | rfl | exact True.intro | exact ⟨rfl, rfl⟩ | exact .inl rfl | exact of_decide_eq_true rfl | exact ⟨rfl, of_decide_eq_true rfl⟩ | decide | assumption | exact .inl ⟨of_decide_eq_true rfl, of_decide_eq_true rfl⟩ | exact .inr ⟨of_decide_eq_true rfl, of_decide_eq_true rfl⟩ | exact ⟨by omega, by omega⟩)); conv => whnf)
          exact hk
      · have e5 : ((zs.map D.str).map fun d => D.str (partS (strOf d))) = (zs.map partS).map D.str := by rw [List.map_map, List.map_map]; rfl
        rw [e5]
        refine hkk _ ⟨zs.map partS, by simpa using hl, fun z hz => ?_, ?_, rfl⟩
        · obtain ⟨y, hy, rfl⟩ := List.mem_map.mp hz
          exact part_ok (hi _ (List.mem_map.mpr ⟨y, hy, rfl⟩))
        · have e6 : (zs.map partS).all badB = (zs.map D.str).all testB := by rw [List.all_map, List.all_map]; rfl
          have e7 : ((zs.map D.str).map fun x => partS (strOf x)) = zs.map partS := by rw [List.map_map]; rfl
          rw [e6]
          rw [e7] at h
          exact h
  · rintro ρ ⟨zs, hl, hz, hk, rfl⟩
    exact tests_rest hl hz rfl hk
theorem tests_law_t {d : D} (hd : okV 5 d = true) (h : kd (.bl (testsB d))) : sm__law_are_tests [d] kd kx := by
  obtain ⟨h1, h2⟩ := okV_its hd
  have ht := okV_top hd
  cases d with
  | lst xs => exact tests_law_lst h1 h2 h
  | tup xs => exact tests_law_tup h1 h2 h
  | str z =>
    unfold sm__law_are_tests
    refine ⟨rfl, ?_⟩
    conv => whnf
    repeat ((with_reducible refine And.intro ?_ ?_); (focus (first | omega | rfl | exact True.intro | exact ⟨rfl, rfl⟩ | exact .inl rfl | exact of_decide_eq_true rfl | exact ⟨rfl, of_decide_eq_true rfl⟩ | decide | assumption | exact .inl ⟨of_decide_eq_true rfl, of_decide_eq_true rfl⟩ | exact .inr ⟨of_decide_eq_true rfl, of_decide_eq_true rfl⟩ | exact ⟨by omega, by omega⟩)); conv => whnf)
    exact h
  | non =>
    unfold sm__law_are_tests
    refine ⟨rfl, ?_⟩
    conv => whnf
    repeat ((with_reducible refine And.intro ?_ ?_); (focus (first | omega | rfl | exact True.intro | exact ⟨rfl, rfl⟩ | exact .inl rfl | exact of_decide_eq_true rfl | exact ⟨rfl, of_decide_eq_true rfl⟩ | decide | assumption | exact .inl ⟨of_decide_eq_true rfl, of_decide_eq_true rfl⟩ | exact .inr ⟨of_decide_eq_true rfl, of_decide_eq_true rfl⟩ | exact ⟨by omega, by omega⟩)); conv => whnf)
    exact h
  | bl _ =>
    unfold sm__law_are_tests
    refine ⟨rfl, ?_⟩
    conv => whnf
    repeat ((with_reducible refine And.intro ?_ ?_); (focus (first | omega | rfl | exact True.intro | exact ⟨rfl, rfl⟩ | exact .inl rfl | exact of_decide_eq_true rfl | exact ⟨rfl, of_decide_eq_true rfl⟩ | decide | assumption | exact .inl ⟨of_decide_eq_true rfl, of_decide_eq_true rfl⟩ | exact .inr ⟨of_decide_eq_true rfl, of_decide_eq_true rfl⟩ | exact ⟨by omega, by omega⟩)); conv => whnf)
    exact h
  | int _ =>
    unfold sm__law_are_tests
    refine ⟨rfl, ?_⟩
    conv => whnf
    repeat ((with_reducible refine And.intro ?_ ?_); (focus (first | omega | rfl | exact True.intro | exact ⟨rfl, rfl⟩ | exact .inl rfl | exact of_decide_eq_true rfl | exact ⟨rfl, of_decide_eq_true rfl⟩ | decide | assumption | exact .inl ⟨of_decide_eq_true rfl, of_decide_eq_true rfl⟩ | exact .inr ⟨of_decide_eq_true rfl, of_decide_eq_true rfl⟩ | exact ⟨by omega, by omega⟩)); conv => whnf)
    exact h
  | _ => cases ht
end
end Lw

set_option Elab.async false
set_option linter.all false
set_option maxRecDepth 100000
set_option maxHeartbeats 0
set_option pp.maxSteps 400
namespace Lw
open PySem PySem.Spec PyProof.Rows L2 DL
def fitP (w : Str) (b : Bool) : D := .tup [.str w, .bl b]
def fndA : Ar → List D
  | .run o t => [fitP "old" (oldB o), fitP "then" (nmB t)]
  | .lead ts o t => [fitP "tests" (testsB ts), fitP "old" (oldB o), fitP "then" (nmB t)]
  | .join h c t => [fitP "here" (oldB h), fitP "came" (oldB c), fitP "then" (joinB t)]
def wA : List Stmt := match (defBody st__law_wrong).head? with
  | some (.If _ a _ _) => a
  | _ => []
def wB : List Stmt := match (defBody st__law_wrong).head? with
  | some (.If _ _ [.If _ a _ _] _) => a
  | _ => []
def wC : List Stmt := match (defBody st__law_wrong).head? with
  | some (.If _ _ [.If _ _ b _] _) => b
  | _ => []
section
variable {kx : DX → Prop}
theorem w_run {o t s : D} {K : DEnds} (hs : s = .lst (arL (.run o t)) ∨ s = .tup (arL (.run o t))) (h1 : topD o = true) (h2 : topD t = true) (hk : K.nx [some (.fr s), none, some (.ow (.lst (fndA (.run o t)))), none, none]) :
    dSeq (dS (TT__law_wrong.at N__law_wrong (defScope st__law_wrong)) false kx 39) wA [some (.fr s), none, none, none, none] K := by
  have hz := sizeLine_eq
  rcases hs with rfl | rfl
  all_goals
    conv => whnf
    repeat ((with_reducible refine And.intro ?_ ?_); (focus (first | omega | rfl | exact True.intro | exact ⟨rfl, rfl⟩ | exact .inl rfl | exact of_decide_eq_true rfl | exact ⟨rfl, of_decide_eq_true rfl⟩ | decide | assumption | exact .inl ⟨of_decide_eq_true rfl, of_decide_eq_true rfl⟩ | exact .inr ⟨of_decide_eq_true rfl, of_decide_eq_true rfl⟩ | exact ⟨by omega, by omega⟩)); conv => whnf)
    refine law_fit_t (ws := ["any"]) h1 ?_
    conv => whnf
    repeat ((with_reducible refine And.intro ?_ ?_); (focus (first | omega | rfl | exact True.intro | exact ⟨rfl, rfl⟩ | exact .inl rfl | exact of_decide_eq_true rfl | exact ⟨rfl, of_decide_eq_true rfl⟩ | decide | assumption | exact .inl ⟨of_decide_eq_true rfl, of_decide_eq_true rfl⟩ | exact .inr ⟨of_decide_eq_true rfl, of_decide_eq_true rfl⟩ | exact ⟨by omega, by omega⟩)); conv => whnf)
    refine law_name_t h2 ?_
    conv => whnf
    repeat ((with_reducible refine And.intro ?_ ?_); (focus (first | omega | rfl | exact True.intro | exact ⟨rfl, rfl⟩ | exact .inl rfl | exact of_decide_eq_true rfl | exact ⟨rfl, of_decide_eq_true rfl⟩ | decide | assumption | exact .inl ⟨of_decide_eq_true rfl, of_decide_eq_true rfl⟩ | exact .inr ⟨of_decide_eq_true rfl, of_decide_eq_true rfl⟩ | exact ⟨by omega, by omega⟩)); conv => whnf)
    exact hk
theorem w_lead {ts o t s : D} {K : DEnds} (hs : s = .lst (arL (.lead ts o t)) ∨ s = .tup (arL (.lead ts o t))) (h0 : okV 5 ts = true) (h1 : topD o = true) (h2 : topD t = true) (hk : K.nx [some (.fr s), none, some (.ow (.lst (fndA (.lead ts o t)))), none, none]) :
    dSeq (dS (TT__law_wrong.at N__law_wrong (defScope st__law_wrong)) false kx 38) wB [some (.fr s), none, none, none, none] K := by
  have hz := sizeLine_eq
  rcases hs with rfl | rfl
  all_goals
    conv => whnf
    repeat ((with_reducible refine And.intro ?_ ?_); (focus (first | omega | rfl | exact True.intro | exact ⟨rfl, rfl⟩ | exact .inl rfl | exact of_decide_eq_true rfl | exact ⟨rfl, of_decide_eq_true rfl⟩ | decide | assumption | exact .inl ⟨of_decide_eq_true rfl, of_decide_eq_true rfl⟩ | exact .inr ⟨of_decide_eq_true rfl, of_decide_eq_true rfl⟩ | exact ⟨by omega, by omega⟩)); conv => whnf)
    refine tests_law_t h0 ?_
    conv => whnf
    repeat ((with_reducible refine And.intro ?_ ?_); (focus (first | omega | rfl | exact True.intro | exact ⟨rfl, rfl⟩ | exact .inl rfl | exact of_decide_eq_true rfl | exact ⟨rfl, of_decide_eq_true rfl⟩ | decide | assumption | exact .inl ⟨of_decide_eq_true rfl, of_decide_eq_true rfl⟩ | exact .inr ⟨of_decide_eq_true rfl, of_decide_eq_true rfl⟩ | exact ⟨by omega, by omega⟩)); conv => whnf)
    refine law_fit_t (ws := ["any"]) h1 ?_
    conv => whnf
    repeat ((with_reducible refine And.intro ?_ ?_); (focus (first | omega | rfl | exact True.intro | exact ⟨rfl, rfl⟩ | exact .inl rfl | exact of_decide_eq_true rfl | exact ⟨rfl, of_decide_eq_true rfl⟩ | decide | assumption | exact .inl ⟨of_decide_eq_true rfl, of_decide_eq_true rfl⟩ | exact .inr ⟨of_decide_eq_true rfl, of_decide_eq_true rfl⟩ | exact ⟨by omega, by omega⟩)); conv => whnf)
    refine law_name_t h2 ?_
    conv => whnf
    repeat ((with_reducible refine And.intro ?_ ?_); (focus (first | omega | rfl | exact True.intro | exact ⟨rfl, rfl⟩ | exact .inl rfl | exact of_decide_eq_true rfl | exact ⟨rfl, of_decide_eq_true rfl⟩ | decide | assumption | exact .inl ⟨of_decide_eq_true rfl, of_decide_eq_true rfl⟩ | exact .inr ⟨of_decide_eq_true rfl, of_decide_eq_true rfl⟩ | exact ⟨by omega, by omega⟩)); conv => whnf)
    exact hk
theorem w_join {b c t s : D} {K : DEnds} (hs : s = .lst (arL (.join b c t)) ∨ s = .tup (arL (.join b c t))) (h0 : topD b = true) (h1 : topD c = true) (h2 : topD t = true) (hk : K.nx [some (.fr s), none, some (.ow (.lst (fndA (.join b c t)))), none, none]) :
    dSeq (dS (TT__law_wrong.at N__law_wrong (defScope st__law_wrong)) false kx 38) wC [some (.fr s), none, none, none, none] K := by
  have hz := sizeLine_eq
  rcases hs with rfl | rfl
  all_goals
    conv => whnf
    repeat ((with_reducible refine And.intro ?_ ?_); (focus (first | omega | rfl | exact True.intro | exact ⟨rfl, rfl⟩ | exact .inl rfl | exact of_decide_eq_true rfl | exact ⟨rfl, of_decide_eq_true rfl⟩ | decide | assumption | exact .inl ⟨of_decide_eq_true rfl, of_decide_eq_true rfl⟩ | exact .inr ⟨of_decide_eq_true rfl, of_decide_eq_true rfl⟩ | exact ⟨by omega, by omega⟩)); conv => whnf)
    refine law_fit_t (ws := ["any"]) h0 ?_
    conv => whnf
    repeat ((with_reducible refine And.intro ?_ ?_); (focus (first | omega | rfl | exact True.intro | exact ⟨rfl, rfl⟩ | exact .inl rfl | exact of_decide_eq_true rfl | exact ⟨rfl, of_decide_eq_true rfl⟩ | decide | assumption | exact .inl ⟨of_decide_eq_true rfl, of_decide_eq_true rfl⟩ | exact .inr ⟨of_decide_eq_true rfl, of_decide_eq_true rfl⟩ | exact ⟨by omega, by omega⟩)); conv => whnf)
    refine law_fit_t (ws := ["any"]) h1 ?_
    conv => whnf
    repeat ((with_reducible refine And.intro ?_ ?_); (focus (first | omega | rfl | exact True.intro | exact ⟨rfl, rfl⟩ | exact .inl rfl | exact of_decide_eq_true rfl | exact ⟨rfl, of_decide_eq_true rfl⟩ | decide | assumption | exact .inl ⟨of_decide_eq_true rfl, of_decide_eq_true rfl⟩ | exact .inr ⟨of_decide_eq_true rfl, of_decide_eq_true rfl⟩ | exact ⟨by omega, by omega⟩)); conv => whnf)
    refine law_fit_t (ws := ["here", "came"]) h2 ?_
    conv => whnf
    repeat ((with_reducible refine And.intro ?_ ?_); (focus (first | omega | rfl | exact True.intro | exact ⟨rfl, rfl⟩ | exact .inl rfl | exact of_decide_eq_true rfl | exact ⟨rfl, of_decide_eq_true rfl⟩ | decide | assumption | exact .inl ⟨of_decide_eq_true rfl, of_decide_eq_true rfl⟩ | exact .inr ⟨of_decide_eq_true rfl, of_decide_eq_true rfl⟩ | exact ⟨by omega, by omega⟩)); conv => whnf)
    exact hk
theorem wrong_1 {a : Ar} {s : D} {K : DEnds} (ha : okA a) (hs : s = .lst (arL a) ∨ s = .tup (arL a)) (hk : K.nx [some (.fr s), none, some (.ow (.lst (fndA a))), none, none]) :
    dSeq (dS (TT__law_wrong.at N__law_wrong (defScope st__law_wrong)) false kx 40) ((defBody st__law_wrong).take 1) [some (.fr s), none, none, none, none] K := by
  refine seq_cons ?_
  cases a with
  | run o t =>
    refine ifC true (ρ' := [some (.fr s), none, none, none, none]) (fun kk h => ?_) ?_
    · rcases hs with rfl | rfl
      all_goals
        conv => whnf
        repeat ((with_reducible refine And.intro ?_ ?_); (focus (first | omega | rfl | exact True.intro | exact ⟨rfl, rfl⟩ | exact .inl rfl | exact of_decide_eq_true rfl | exact ⟨rfl, of_decide_eq_true rfl⟩ | decide | assumption | exact .inl ⟨of_decide_eq_true rfl, of_decide_eq_true rfl⟩ | exact .inr ⟨of_decide_eq_true rfl, of_decide_eq_true rfl⟩ | exact ⟨by omega, by omega⟩)); conv => whnf)
        exact h
    · exact w_run hs (okV_top (ha o (by simp [arL]))) (okV_top (ha t (by simp [arL]))) hk
  | lead ts o t =>
    refine ifC false (ρ' := [some (.fr s), none, none, none, none]) (fun kk h => ?_) ?_
    · rcases hs with rfl | rfl
      all_goals
        conv => whnf
        repeat ((with_reducible refine And.intro ?_ ?_); (focus (first | omega | rfl | exact True.intro | exact ⟨rfl, rfl⟩ | exact .inl rfl | exact of_decide_eq_true rfl | exact ⟨rfl, of_decide_eq_true rfl⟩ | decide | assumption | exact .inl ⟨of_decide_eq_true rfl, of_decide_eq_true rfl⟩ | exact .inr ⟨of_decide_eq_true rfl, of_decide_eq_true rfl⟩ | exact ⟨by omega, by omega⟩)); conv => whnf)
        exact h
    refine seq_cons ?_
    refine ifC true (ρ' := [some (.fr s), none, none, none, none]) (fun kk h => ?_) ?_
    · rcases hs with rfl | rfl
      all_goals
        conv => whnf
        repeat ((with_reducible refine And.intro ?_ ?_); (focus (first | omega | rfl | exact True.intro | exact ⟨rfl, rfl⟩ | exact .inl rfl | exact of_decide_eq_true rfl | exact ⟨rfl, of_decide_eq_true rfl⟩ | decide | assumption | exact .inl ⟨of_decide_eq_true rfl, of_decide_eq_true rfl⟩ | exact .inr ⟨of_decide_eq_true rfl, of_decide_eq_true rfl⟩ | exact ⟨by omega, by omega⟩)); conv => whnf)
        exact h
    · exact w_lead hs (ha ts (by simp [arL])) (okV_top (ha o (by simp [arL]))) (okV_top (ha t (by simp [arL]))) hk
  | join b c t =>
    refine ifC false (ρ' := [some (.fr s), none, none, none, none]) (fun kk h => ?_) ?_
    · rcases hs with rfl | rfl
      all_goals
        conv => whnf
        repeat ((with_reducible refine And.intro ?_ ?_); (focus (first | omega | rfl | exact True.intro | exact ⟨rfl, rfl⟩ | exact .inl rfl | exact of_decide_eq_true rfl | exact ⟨rfl, of_decide_eq_true rfl⟩ | decide | assumption | exact .inl ⟨of_decide_eq_true rfl, of_decide_eq_true rfl⟩ | exact .inr ⟨of_decide_eq_true rfl, of_decide_eq_true rfl⟩ | exact ⟨by omega, by omega⟩)); conv => whnf)
        exact h
    refine seq_cons ?_
    refine ifC false (ρ' := [some (.fr s), none, none, none, none]) (fun kk h => ?_) ?_
    · rcases hs with rfl | rfl
      all_goals
        conv => whnf
        repeat ((with_reducible refine And.intro ?_ ?_); (focus (first | omega | rfl | exact True.intro | exact ⟨rfl, rfl⟩ | exact .inl rfl | exact of_decide_eq_true rfl | exact ⟨rfl, of_decide_eq_true rfl⟩ | decide | assumption | exact .inl ⟨of_decide_eq_true rfl, of_decide_eq_true rfl⟩ | exact .inr ⟨of_decide_eq_true rfl, of_decide_eq_true rfl⟩ | exact ⟨by omega, by omega⟩)); conv => whnf)
        exact h
    · exact w_join hs (okV_top (ha b (by simp [arL]))) (okV_top (ha c (by simp [arL]))) (okV_top (ha t (by simp [arL]))) hk
end
end Lw

set_option Elab.async false
set_option linter.all false
set_option maxRecDepth 100000
set_option maxHeartbeats 0
set_option pp.maxSteps 400
namespace Lw
open PySem PySem.Spec PyProof.Rows L2 DL
def fitL : Ar → List (Str × Bool)
  | .run o t => [("old", oldB o), ("then", nmB t)]
  | .lead ts o t => [("tests", testsB ts), ("old", oldB o), ("then", nmB t)]
  | .join h c t => [("here", oldB h), ("came", oldB c), ("then", joinB t)]
def badW : List (Str × Bool) → List Str
  | [] => []
  | (w, b) :: l => if b = true then badW l else w :: badW l
theorem fnd_fit (a : Ar) : fndA a = (fitL a).map fun p => fitP p.1 p.2 := by cases a <;> rfl
theorem wr_fit (a : Ar) : wrA a = (badW (fitL a)).head? := by
  cases a with
  | run o t => unfold wrA fitL; dsimp only; cases oldB o <;> cases nmB t <;> rfl
  | lead ts o t => unfold wrA fitL; dsimp only; cases testsB ts <;> cases oldB o <;> cases nmB t <;> rfl
  | join b c t => unfold wrA fitL; dsimp only; cases oldB b <;> cases oldB c <;> cases joinB t <;> rfl
theorem fit_lay (a : Ar) : ∀ w ∈ badW (fitL a), PyData.canLay0 (.str w) = true := by
  have key : ∀ l : List (Str × Bool), (∀ p ∈ l, PyData.canLay0 (.str p.1) = true) → ∀ w ∈ badW l, PyData.canLay0 (.str w) = true := fun l => by
    induction l with
    | nil => intro _ w hw; cases hw
    | cons p l ih =>
      obtain ⟨z, b⟩ := p
      intro h w hw
      unfold badW at hw
      split at hw
      · exact ih (fun q hq => h q (List.mem_cons_of_mem _ hq)) w hw
      · rcases List.mem_cons.mp hw with rfl | hw
        · exact h (w, b) (List.mem_cons_self ..)
        · exact ih (fun q hq => h q (List.mem_cons_of_mem _ hq)) w hw
  refine key _ ?_
  cases a
  all_goals
    intro p hp
    simp only [fitL, List.mem_cons, List.not_mem_nil, or_false] at hp
    rcases hp with rfl | rfl | rfl
    all_goals
      dsimp only
      decide +kernel
def fitF : D → Option D
  | .tup [.str w, .bl b] => if b = true then none else some (.str w)
  | _ => none
theorem fm_fit : ∀ l : List (Str × Bool), (l.map fun p => fitP p.1 p.2).filterMap fitF = (badW l).map D.str
  | [] => rfl
  | (w, b) :: l => by
    rw [List.map_cons, List.filterMap_cons]
    cases b with
    | true => exact fm_fit l
    | false =>
      show D.str w :: _ = D.str w :: _
      rw [fm_fit l]
section
variable {kd : D → Prop} {kx : DX → Prop}
theorem wrong_t {a : Ar} {s : D} (ha : okA a) (hs : s = .lst (arL a) ∨ s = .tup (arL a)) (h : kd (optS (wrA a))) : sm__law_wrong [s] kd kx := by
  have hz := sizeLine_eq
  have hl : (fndA a).length ≤ 3 := by cases a <;> simp [fndA]
  unfold sm__law_wrong
  refine ⟨rfl, ?_⟩
  refine seq_cut 1 (fun ρ => ρ = [some (.fr s), none, some (.ow (.lst (fndA a))), none, none]) (fun kk hkk => wrong_1 ha hs (hkk _ rfl)) ?_
  rintro ρ rfl
  conv => whnf
  repeat ((with_reducible refine And.intro ?_ ?_); (focus (first | omega | rfl | exact True.intro | exact ⟨rfl, rfl⟩ | exact .inl rfl | exact of_decide_eq_true rfl | exact ⟨rfl, of_decide_eq_true rfl⟩ | decide | assumption | exact .inl ⟨of_decide_eq_true rfl, of_decide_eq_true rfl⟩ | exact .inr ⟨of_decide_eq_true rfl, of_decide_eq_true rfl⟩ | exact ⟨by omega, by omega⟩)); conv => whnf)
  refine compF fitF (by omega) (fun d k' hd hk => ?_) ?_
  · rw [fnd_fit] at hd
    obtain ⟨⟨w, b⟩, _, rfl⟩ := List.mem_map.mp hd
    cases b with
    | true =>
      conv => whnf
      repeat ((with_reducible refine And.intro ?_ ?_); (focus (first | omega | rfl | exact True.intro | exact ⟨rfl, rfl⟩ | exact .inl rfl | exact of_decide_eq_true rfl | exact ⟨rfl, of_decide_eq_true rfl⟩ | decide | assumption | exact .inl ⟨of_decide_eq_true rfl, of_decide_eq_true rfl⟩ | exact .inr ⟨of_decide_eq_true rfl, of_decide_eq_true rfl⟩ | exact ⟨by omega, by omega⟩)); conv => whnf)
      exact hk
    | false =>
      conv => whnf
      repeat ((with_reducible refine And.intro ?_ ?_); (focus (first | omega | rfl | exact True.intro | exact ⟨rfl, rfl⟩ | exact .inl rfl | exact of_decide_eq_true rfl | exact ⟨rfl, of_decide_eq_true rfl⟩ | decide | assumption | exact .inl ⟨of_decide_eq_true rfl, of_decide_eq_true rfl⟩ | exact .inr ⟨of_decide_eq_true rfl, of_decide_eq_true rfl⟩ | exact ⟨by omega, by omega⟩)); conv => whnf)
      exact hk
  · rw [fnd_fit, fm_fit]
    rw [wr_fit] at h
    conv => whnf
    repeat ((with_reducible refine And.intro ?_ ?_); (focus (first | omega | rfl | exact True.intro | exact ⟨rfl, rfl⟩ | exact .inl rfl | exact of_decide_eq_true rfl | exact ⟨rfl, of_decide_eq_true rfl⟩ | decide | assumption | exact .inl ⟨of_decide_eq_true rfl, of_decide_eq_true rfl⟩ | exact .inr ⟨of_decide_eq_true rfl, of_decide_eq_true rfl⟩ | exact ⟨by omega, by omega⟩)); conv => whnf)
    refine ⟨_, _, toPy_strs _, rfl, shape_strs (fit_lay a), rfl, ?_⟩
    rw [eqv_nil]
    cases hb : badW (fitL a) with
    | nil =>
      rw [hb] at h
      conv => whnf
      repeat ((with_reducible refine And.intro ?_ ?_); (focus (first | omega | rfl | exact True.intro | exact ⟨rfl, rfl⟩ | exact .inl rfl | exact of_decide_eq_true rfl | exact ⟨rfl, of_decide_eq_true rfl⟩ | decide | assumption | exact .inl ⟨of_decide_eq_true rfl, of_decide_eq_true rfl⟩ | exact .inr ⟨of_decide_eq_true rfl, of_decide_eq_true rfl⟩ | exact ⟨by omega, by omega⟩)); conv => whnf)
      exact h
    | cons w ws =>
      rw [hb] at h
      conv => whnf
      repeat ((with_reducible refine And.intro ?_ ?_); (focus (first | omega | rfl | exact True.intro | exact ⟨rfl, rfl⟩ | exact .inl rfl | exact of_decide_eq_true rfl | exact ⟨rfl, of_decide_eq_true rfl⟩ | decide | assumption | exact .inl ⟨of_decide_eq_true rfl, of_decide_eq_true rfl⟩ | exact .inr ⟨of_decide_eq_true rfl, of_decide_eq_true rfl⟩ | exact ⟨by omega, by omega⟩)); conv => whnf)
      rw [show atI (List.map D.str (w :: ws)) 0 = some (.str w) by rw [atI_nat (by decide) (by simp)]; rfl]
      conv => whnf
      repeat ((with_reducible refine And.intro ?_ ?_); (focus (first | omega | rfl | exact True.intro | exact ⟨rfl, rfl⟩ | exact .inl rfl | exact of_decide_eq_true rfl | exact ⟨rfl, of_decide_eq_true rfl⟩ | decide | assumption | exact .inl ⟨of_decide_eq_true rfl, of_decide_eq_true rfl⟩ | exact .inr ⟨of_decide_eq_true rfl, of_decide_eq_true rfl⟩ | exact ⟨by omega, by omega⟩)); conv => whnf)
      exact h
/-! ### odd things -/
theorem odd_ok (h : ∀ d, okV 5 d = true → kd d) : sm__law_odd [.src] kd kx := by
  have hz := sizeLine_eq
  unfold sm__law_odd
  refine ⟨rfl, ?_⟩
  conv => whnf
  repeat ((with_reducible refine And.intro ?_ ?_); (focus (first | omega | rfl | exact True.intro | exact ⟨rfl, rfl⟩ | exact .inl rfl | exact of_decide_eq_true rfl | exact ⟨rfl, of_decide_eq_true rfl⟩ | decide | assumption | exact .inl ⟨of_decide_eq_true rfl, of_decide_eq_true rfl⟩ | exact .inr ⟨of_decide_eq_true rfl, of_decide_eq_true rfl⟩ | exact ⟨by omega, by omega⟩)); conv => whnf)
  refine value_3 fun v hv => ?_
  have hv : okV 5 v = true := okV_up (okV_up hv)
  conv => whnf
  repeat ((with_reducible refine And.intro ?_ ?_); (focus (first | omega | rfl | exact True.intro | exact ⟨rfl, rfl⟩ | exact .inl rfl | exact of_decide_eq_true rfl | exact ⟨rfl, of_decide_eq_true rfl⟩ | decide | assumption | exact .inl ⟨of_decide_eq_true rfl, of_decide_eq_true rfl⟩ | exact .inr ⟨of_decide_eq_true rfl, of_decide_eq_true rfl⟩ | exact ⟨by omega, by omega⟩)); conv => whnf)
  refine pick_ok (by simp) (by simp) fun d hd => ?_
  refine h d ?_
  rcases List.mem_append.mp hd with hd1 | hd1
  · clear hv h hd
    revert d
    decide +kernel
  · rw [List.mem_singleton.mp hd1]; exact hv
end
end Lw

set_option Elab.async false
set_option linter.all false
set_option maxRecDepth 100000
set_option maxHeartbeats 0
set_option pp.maxSteps 400
namespace Lw
open PySem PySem.Spec PyProof.Rows L2 DL
def arOf : Rw → Ar
  | .run o t => .run (.str o) (.str t)
  | .lead ts o t => .lead (.lst (ts.map D.str)) (.str o) (.str t)
  | .join h c t => .join (.str h) (.str c) (.str t)
theorem str_ok {z : Str} {n : Nat} (h : topD (.str z) = true) : okV n (.str z) = true := by cases n <;> exact h
theorem ar_ok {r : Rw} (h : RwD r) : okA (arOf r) ∧ wrA (arOf r) = none := by
  have o := h.ok.ol
  cases r with
  | run a t =>
    refine ⟨fun d hd => ?_, ?_⟩
    · simp only [arOf, arL, List.drop_succ_cons, List.drop_zero, List.mem_cons, List.not_mem_nil, or_false] at hd
      rcases hd with rfl | rfl
      · exact str_ok (old_wok a (.inl o.1)).2
      · exact str_ok (old_wok t (.inr (nm_join o.2))).2
    · unfold wrA arOf
      dsimp only
      rw [if_pos o.1, if_pos o.2]
  | lead ts a t =>
    have p := h.ok.ld ts a t rfl
    refine ⟨fun d hd => ?_, ?_⟩
    · simp only [arOf, arL, List.drop_succ_cons, List.drop_zero, List.mem_cons, List.not_mem_nil, or_false] at hd
      rcases hd with rfl | rfl | rfl
      · refine okV_lst ?_ fun x hx => ?_
        · have := p.sz
          rw [List.length_map]; omega
        · obtain ⟨z, hz, rfl⟩ := List.mem_map.mp hx
          exact str_ok (h.tp ts a t rfl z hz)
      · exact str_ok (old_wok a (.inl o.1)).2
      · exact str_ok (old_wok t (.inr (nm_join o.2))).2
    · unfold wrA arOf
      dsimp only
      rw [if_pos p.tb, if_pos o.1, if_pos o.2]
  | join a b t =>
    refine ⟨fun d hd => ?_, ?_⟩
    · simp only [arOf, arL, List.drop_succ_cons, List.drop_zero, List.mem_cons, List.not_mem_nil, or_false] at hd
      rcases hd with rfl | rfl | rfl
      · exact str_ok (old_wok a (.inl o.1)).2
      · exact str_ok (old_wok b (.inl o.2.1)).2
      · exact str_ok (old_wok t (.inr o.2.2)).2
    · unfold wrA arOf
      dsimp only
      rw [if_pos o.1, if_pos o.2.1, if_pos o.2.2]
theorem set_ar {a : Ar} {d : D} {j : Nat} (ha : okA a) (hd : okV 5 d = true) (h0 : 1 ≤ j) (h1 : j < (arL a).length) : ∃ a', (arL a).set j d = arL a' ∧ okA a' := by
  have mk : ∀ a', (∀ x ∈ (arL a').drop 1, x = d ∨ x ∈ (arL a).drop 1) → okA a' := fun a' h x hx => by
    rcases h x hx with rfl | h
    · exact hd
    · exact ha x h
  cases a with
  | run o t =>
    match j, h0, h1 with
    | 1, _, _ => exact ⟨.run d t, rfl, mk _ (by simp [arL])⟩
    | 2, _, _ => exact ⟨.run o d, rfl, mk _ (by simp [arL])⟩
    | j + 3, _, h1 => (exfalso; simp [arL] at h1; omega)
  | lead ts o t =>
    match j, h0, h1 with
    | 1, _, _ => exact ⟨.lead d o t, rfl, mk _ (by simp [arL])⟩
    | 2, _, _ => exact ⟨.lead ts d t, rfl, mk _ (by simp [arL])⟩
    | 3, _, _ => exact ⟨.lead ts o d, rfl, mk _ (by simp [arL])⟩
    | j + 4, _, h1 => (exfalso; simp [arL] at h1; omega)
  | join b c t =>
    match j, h0, h1 with
    | 1, _, _ => exact ⟨.join d c t, rfl, mk _ (by simp [arL])⟩
    | 2, _, _ => exact ⟨.join b d t, rfl, mk _ (by simp [arL])⟩
    | 3, _, _ => exact ⟨.join b c d, rfl, mk _ (by simp [arL])⟩
    | j + 4, _, h1 => (exfalso; simp [arL] at h1; omega)
theorem ar_len (a : Ar) : 3 ≤ (arL a).length ∧ (arL a).length ≤ 4 := by cases a <;> simp [arL]
def optP : Option Str → PyData
  | none => .none
  | some w => .str w
def opts : List (Option Str) := [none, some "old", some "then", some "tests", some "here", some "came"]
theorem wr_mem (a : Ar) : wrA a ∈ opts := by
  cases a <;> (unfold wrA opts; dsimp only; repeat' split) <;> simp
theorem rep_ok : ∀ o ∈ opts, (optP o).showable = true ∧ (optP o).depth ≤ 64 ∧ (optP o).shown.length ≤ 1000 := by decide +kernel
theorem toPy_opt (o : Option Str) : toPy (optS o) = some (optP o) := by cases o <;> rfl
/-- the loop's state -/
def eK (ns : List Int) (ρ : Env') : Prop := ∃ a2 a3 a4 a5 : Option S, ρ = [some (.fr (.scr ns)), some (.fr .src), a2, a3, a4, a5]
def tnB : List Stmt := match ((defBody st_law).drop 1).head? with
  | some (.For _ _ b _ _) => b
  | _ => []
def inB : List Stmt := match (tnB.drop 2).head? with
  | some (.For _ _ b _ _) => b
  | _ => []
def eR (ns : List Int) (a2 a3 : Option S) (ρ : Env') : Prop := ∃ (a : Ar) (a5 : Option S), okA a ∧ ρ = [some (.fr (.scr ns)), some (.fr .src), a2, a3, some (.ow (.lst (arL a))), a5]
section
variable {kx : DX → Prop}
theorem turn1 {ns : List Int} {K : DEnds} {a2 a3 a4 a5 : Option S} (hk : ∀ ρ, eR ns a2 a3 ρ → K.nx ρ) :
    dSeq (dS (TT_law.at N_law (defScope st_law)) false kx 39) (tnB.take 2) [some (.fr (.scr ns)), some (.fr .src), a2, a3, a4, a5] K := by
  conv => whnf
  repeat ((with_reducible refine And.intro ?_ ?_); (focus (first | omega | rfl | exact True.intro | exact ⟨rfl, rfl⟩ | exact .inl rfl | exact of_decide_eq_true rfl | exact ⟨rfl, of_decide_eq_true rfl⟩ | decide | assumption | exact .inl ⟨of_decide_eq_true rfl, of_decide_eq_true rfl⟩ | exact .inr ⟨of_decide_eq_true rfl, of_decide_eq_true rfl⟩ | exact ⟨by omega, by omega⟩)); conv => whnf)
  refine marks_ok (by decide) (by decide) fun ms hl nd hm => ?_
  have hm0 : ms ≠ [] := fun e => by rw [e] at hl; cases hl
  have hml : ms.length ≤ 14 := by rw [hl]; decide
  conv => whnf
  repeat ((with_reducible refine And.intro ?_ ?_); (focus (first | omega | rfl | exact True.intro | exact ⟨rfl, rfl⟩ | exact .inl rfl | exact of_decide_eq_true rfl | exact ⟨rfl, of_decide_eq_true rfl⟩ | decide | assumption | exact .inl ⟨of_decide_eq_true rfl, of_decide_eq_true rfl⟩ | exact .inr ⟨of_decide_eq_true rfl, of_decide_eq_true rfl⟩ | exact ⟨by omega, by omega⟩)); conv => whnf)
  refine row_ok hm0 hml hm fun r hr => ?_
  obtain ⟨h1, h2⟩ := ar_ok hr
  have key : ∃ xs, rowTup r = .tup xs ∧ xs = arL (arOf r) := by cases r <;> exact ⟨_, rfl, rfl⟩
  obtain ⟨xs, e1, rfl⟩ := key
  rw [e1]
  conv => whnf
  repeat ((with_reducible refine And.intro ?_ ?_); (focus (first | omega | rfl | exact True.intro | exact ⟨rfl, rfl⟩ | exact .inl rfl | exact of_decide_eq_true rfl | exact ⟨rfl, of_decide_eq_true rfl⟩ | decide | assumption | exact .inl ⟨of_decide_eq_true rfl, of_decide_eq_true rfl⟩ | exact .inr ⟨of_decide_eq_true rfl, of_decide_eq_true rfl⟩ | exact ⟨by omega, by omega⟩)); conv => whnf)
  refine told_t h1 (.inl rfl) ?_
  rw [h2]
  conv => whnf
  repeat ((with_reducible refine And.intro ?_ ?_); (focus (first | omega | rfl | exact True.intro | exact ⟨rfl, rfl⟩ | exact .inl rfl | exact of_decide_eq_true rfl | exact ⟨rfl, of_decide_eq_true rfl⟩ | decide | assumption | exact .inl ⟨of_decide_eq_true rfl, of_decide_eq_true rfl⟩ | exact .inr ⟨of_decide_eq_true rfl, of_decide_eq_true rfl⟩ | exact ⟨by omega, by omega⟩)); conv => whnf)
  exact hk _ ⟨_, _, h1, rfl⟩
theorem turn2 {ns : List Int} {K : DEnds} {a2 a3 a5 : Option S} {a : Ar} (ha : okA a) (hk : ∀ ρ, eR ns a2 a3 ρ → K.nx ρ) :
    dSeq (dS (TT_law.at N_law (defScope st_law)) false kx 38) inB [some (.fr (.scr ns)), some (.fr .src), a2, a3, some (.ow (.lst (arL a))), a5] K := by
  obtain ⟨l1, l2⟩ := ar_len a
  conv => whnf
  repeat ((with_reducible refine And.intro ?_ ?_); (focus (first | omega | rfl | exact True.intro | exact ⟨rfl, rfl⟩ | exact .inl rfl | exact of_decide_eq_true rfl | exact ⟨rfl, of_decide_eq_true rfl⟩ | decide | assumption | exact .inl ⟨of_decide_eq_true rfl, of_decide_eq_true rfl⟩ | exact .inr ⟨of_decide_eq_true rfl, of_decide_eq_true rfl⟩ | exact ⟨by omega, by omega⟩)); conv => whnf)
  refine odd_ok fun d hd => ?_
  conv => whnf
  repeat ((with_reducible refine And.intro ?_ ?_); (focus (first | omega | rfl | exact True.intro | exact ⟨rfl, rfl⟩ | exact .inl rfl | exact of_decide_eq_true rfl | exact ⟨rfl, of_decide_eq_true rfl⟩ | decide | assumption | exact .inl ⟨of_decide_eq_true rfl, of_decide_eq_true rfl⟩ | exact .inr ⟨of_decide_eq_true rfl, of_decide_eq_true rfl⟩ | exact ⟨by omega, by omega⟩)); conv => whnf)
  refine ⟨_, rfl, by omega, by omega, fun j j0 j1 => ?_⟩
  conv => whnf
  repeat ((with_reducible refine And.intro ?_ ?_); (focus (first | omega | rfl | exact True.intro | exact ⟨rfl, rfl⟩ | exact .inl rfl | exact of_decide_eq_true rfl | exact ⟨rfl, of_decide_eq_true rfl⟩ | decide | assumption | exact .inl ⟨of_decide_eq_true rfl, of_decide_eq_true rfl⟩ | exact .inr ⟨of_decide_eq_true rfl, of_decide_eq_true rfl⟩ | exact ⟨by omega, by omega⟩)); conv => whnf)
  rw [setD_lst (by omega) (by omega)]
  conv => whnf
  repeat ((with_reducible refine And.intro ?_ ?_); (focus (first | omega | rfl | exact True.intro | exact ⟨rfl, rfl⟩ | exact .inl rfl | exact of_decide_eq_true rfl | exact ⟨rfl, of_decide_eq_true rfl⟩ | decide | assumption | exact .inl ⟨of_decide_eq_true rfl, of_decide_eq_true rfl⟩ | exact .inr ⟨of_decide_eq_true rfl, of_decide_eq_true rfl⟩ | exact ⟨by omega, by omega⟩)); conv => whnf)
  obtain ⟨a', e, ha'⟩ := set_ar (j := (1 + j).toNat) ha hd (by omega) (by omega)
  rw [e]
  exact hk _ ⟨a', _, ha', rfl⟩
theorem turn3 {ns : List Int} {K : DEnds} {a2 a3 a5 : Option S} {a : Ar} (ha : okA a) (hk : ∀ ρ, eR ns a2 a3 ρ → K.nx ρ) :
    dSeq (dS (TT_law.at N_law (defScope st_law)) false kx 39) (tnB.drop 3) [some (.fr (.scr ns)), some (.fr .src), a2, a3, some (.ow (.lst (arL a))), a5] K := by
  have hs := sizeLine_eq
  obtain ⟨g1, g2, g3⟩ := rep_ok _ (wr_mem a)
  cases hw : wrA a
  all_goals
    rw [hw] at g1 g2 g3
    conv => whnf
    repeat ((with_reducible refine And.intro ?_ ?_); (focus (first | omega | rfl | exact True.intro | exact ⟨rfl, rfl⟩ | exact .inl rfl | exact of_decide_eq_true rfl | exact ⟨rfl, of_decide_eq_true rfl⟩ | decide | assumption | exact .inl ⟨of_decide_eq_true rfl, of_decide_eq_true rfl⟩ | exact .inr ⟨of_decide_eq_true rfl, of_decide_eq_true rfl⟩ | exact ⟨by omega, by omega⟩)); conv => whnf)
    refine told_t ha (.inl rfl) ?_
    rw [hw]
    conv => whnf
    repeat ((with_reducible refine And.intro ?_ ?_); (focus (first | omega | rfl | exact True.intro | exact ⟨rfl, rfl⟩ | exact .inl rfl | exact of_decide_eq_true rfl | exact ⟨rfl, of_decide_eq_true rfl⟩ | decide | assumption | exact .inl ⟨of_decide_eq_true rfl, of_decide_eq_true rfl⟩ | exact .inr ⟨of_decide_eq_true rfl, of_decide_eq_true rfl⟩ | exact ⟨by omega, by omega⟩)); conv => whnf)
    refine ⟨_, rfl, g1, g2, Nat.le_trans g3 (by rw [hs]; decide), ?_⟩
    conv => whnf
    repeat ((with_reducible refine And.intro ?_ ?_); (focus (first | omega | rfl | exact True.intro | exact ⟨rfl, rfl⟩ | exact .inl rfl | exact of_decide_eq_true rfl | exact ⟨rfl, of_decide_eq_true rfl⟩ | decide | assumption | exact .inl ⟨of_decide_eq_true rfl, of_decide_eq_true rfl⟩ | exact .inr ⟨of_decide_eq_true rfl, of_decide_eq_true rfl⟩ | exact ⟨by omega, by omega⟩)); conv => whnf)
    refine wrong_t ha (.inl rfl) ?_
    rw [hw]
    conv => whnf
    repeat ((with_reducible refine And.intro ?_ ?_); (focus (first | omega | rfl | exact True.intro | exact ⟨rfl, rfl⟩ | exact .inl rfl | exact of_decide_eq_true rfl | exact ⟨rfl, of_decide_eq_true rfl⟩ | decide | assumption | exact .inl ⟨of_decide_eq_true rfl, of_decide_eq_true rfl⟩ | exact .inr ⟨of_decide_eq_true rfl, of_decide_eq_true rfl⟩ | exact ⟨by omega, by omega⟩)); conv => whnf)
    refine ⟨_, rfl, g1, g2, Nat.le_trans g3 (by rw [hs]; decide), ?_⟩
    conv => whnf
    repeat ((with_reducible refine And.intro ?_ ?_); (focus (first | omega | rfl | exact True.intro | exact ⟨rfl, rfl⟩ | exact .inl rfl | exact of_decide_eq_true rfl | exact ⟨rfl, of_decide_eq_true rfl⟩ | decide | assumption | exact .inl ⟨of_decide_eq_true rfl, of_decide_eq_true rfl⟩ | exact .inr ⟨of_decide_eq_true rfl, of_decide_eq_true rfl⟩ | exact ⟨by omega, by omega⟩)); conv => whnf)
    first
      | exact hk _ ⟨a, _, ha, rfl⟩
      | (refine ite_f (by simp) ?_; exact hk _ ⟨a, _, ha, rfl⟩)
end
end Lw

set_option Elab.async false
set_option linter.all false
set_option maxRecDepth 100000
set_option maxHeartbeats 0
set_option pp.maxSteps 400
namespace Lw
open PySem PySem.Spec PyProof.Rows L2 DL
theorem turn {ns : List Int} {kx : DX → Prop} {K : DEnds} {a2 a3 a4 a5 : Option S} (hk : ∀ ρ, eK ns ρ → K.nx ρ) :
    dSeq (dS (TT_law.at N_law (defScope st_law)) false kx 39) tnB [some (.fr (.scr ns)), some (.fr .src), a2, a3, a4, a5] K := by
  refine seq_cut 2 (eR ns a2 a3) (fun kk hkk => turn1 hkk) ?_
  rintro ρ ⟨a, a5, ha, rfl⟩
  refine seq_cut 1 (eR ns a2 a3) ?_ ?_
  · intro kk hkk
    refine seq_cons ?_
    refine for_cut (n := 38) (fun l ρ => eR ns a2 a3 ρ) rfl ?_ ?_
    · intro k2 hk2
      conv => whnf
      repeat ((with_reducible refine And.intro ?_ ?_); (focus (first | omega | rfl | exact True.intro | exact ⟨rfl, rfl⟩ | exact .inl rfl | exact of_decide_eq_true rfl | exact ⟨rfl, of_decide_eq_true rfl⟩ | decide | assumption | exact .inl ⟨of_decide_eq_true rfl, of_decide_eq_true rfl⟩ | exact .inr ⟨of_decide_eq_true rfl, of_decide_eq_true rfl⟩ | exact ⟨by omega, by omega⟩)); conv => whnf)
      refine ⟨2, rfl, by decide, by decide, fun j j0 j1 => ?_⟩
      conv => whnf
      repeat ((with_reducible refine And.intro ?_ ?_); (focus (first | omega | rfl | exact True.intro | exact ⟨rfl, rfl⟩ | exact .inl rfl | exact of_decide_eq_true rfl | exact ⟨rfl, of_decide_eq_true rfl⟩ | decide | assumption | exact .inl ⟨of_decide_eq_true rfl, of_decide_eq_true rfl⟩ | exact .inr ⟨of_decide_eq_true rfl, of_decide_eq_true rfl⟩ | exact ⟨by omega, by omega⟩)); conv => whnf)
      exact hk2 _ _ ⟨a, _, ha, rfl⟩
    · rintro l ρ hr
      refine forI (fun l ρ => eR ns a2 a3 ρ) hr ?_ ?_
      · rintro d l ρ ⟨a, a5, ha, rfl⟩ ih
        refine for_step (i := 5) (.inl rfl) rfl ?_
        exact turn2 ha fun ρ hr => ih ρ hr
      · rintro ρ hr
        exact hkk _ hr
  · rintro ρ ⟨a, a5, ha, rfl⟩
    refine turn3 ha ?_
    rintro ρ ⟨a, a5, ha, rfl⟩
    exact hk _ ⟨_, _, _, _, rfl⟩
def wordsL : List Str := ["and", "any", "came", "here", "not", "own", "to", "", "toolo", "a1", "A"]
theorem words_bad : ∀ w ∈ wordsL, nameB w = false ∧ topD (.str w) = true := by decide +kernel
theorem top5 {z : Str} (h : topD (.str z) = true) : okV 5 (.str z) = true := h
theorem law_plain (ns : List Int) : sm_law [.scr ns] (fun d => d = .bl true) (fun _ => False) := by
  have hs := sizeLine_eq
  unfold sm_law
  refine ⟨rfl, ?_⟩
  refine seq_cut 1 (eK ns) ?_ ?_
  · intro kk hkk
    conv => whnf
    repeat ((with_reducible refine And.intro ?_ ?_); (focus (first | omega | rfl | exact True.intro | exact ⟨rfl, rfl⟩ | exact .inl rfl | exact of_decide_eq_true rfl | exact ⟨rfl, of_decide_eq_true rfl⟩ | decide | assumption | exact .inl ⟨of_decide_eq_true rfl, of_decide_eq_true rfl⟩ | exact .inr ⟨of_decide_eq_true rfl, of_decide_eq_true rfl⟩ | exact ⟨by omega, by omega⟩)); conv => whnf)
    refine ⟨ns, 0, rfl, by decide, ?_⟩
    conv => whnf
    repeat ((with_reducible refine And.intro ?_ ?_); (focus (first | omega | rfl | exact True.intro | exact ⟨rfl, rfl⟩ | exact .inl rfl | exact of_decide_eq_true rfl | exact ⟨rfl, of_decide_eq_true rfl⟩ | decide | assumption | exact .inl ⟨of_decide_eq_true rfl, of_decide_eq_true rfl⟩ | exact .inr ⟨of_decide_eq_true rfl, of_decide_eq_true rfl⟩ | exact ⟨by omega, by omega⟩)); conv => whnf)
    exact hkk _ ⟨_, _, _, _, rfl⟩
  · rintro ρ hr
    refine seq_cut 1 (eK ns) ?_ ?_
    · intro kk hkk
      refine seq_cons ?_
      refine for_cut (n := 39) (fun l ρ => eK ns ρ) rfl ?_ ?_
      · intro k2 hk2
        obtain ⟨b2, b3, b4, b5, rfl⟩ := hr
        conv => whnf
        repeat ((with_reducible refine And.intro ?_ ?_); (focus (first | omega | rfl | exact True.intro | exact ⟨rfl, rfl⟩ | exact .inl rfl | exact of_decide_eq_true rfl | exact ⟨rfl, of_decide_eq_true rfl⟩ | decide | assumption | exact .inl ⟨of_decide_eq_true rfl, of_decide_eq_true rfl⟩ | exact .inr ⟨of_decide_eq_true rfl, of_decide_eq_true rfl⟩ | exact ⟨by omega, by omega⟩)); conv => whnf)
        exact hk2 _ _ ⟨b2, b3, b4, b5, rfl⟩
      · rintro l ρ hr
        refine forI (fun l ρ => eK ns ρ) hr ?_ ?_
        · rintro d l ρ ⟨b2, b3, b4, b5, rfl⟩ ih
          refine for_step (i := 2) (.inl rfl) rfl ?_
          exact turn fun ρ hr => ih ρ hr
        · rintro ρ hr
          exact hkk _ hr
    · rintro ρ hr
      refine seq_cut 1 (eK ns) ?_ ?_
      · intro kk hkk
        refine seq_cons ?_
        refine for_cut (n := 39) (fun l ρ => (∀ d ∈ l, ∃ w ∈ wordsL, d = .str w) ∧ eK ns ρ) rfl ?_ ?_
        · intro k2 hk2
          obtain ⟨b2, b3, b4, b5, rfl⟩ := hr
          conv => whnf
          repeat ((with_reducible refine And.intro ?_ ?_); (focus (first | omega | rfl | exact True.intro | exact ⟨rfl, rfl⟩ | exact .inl rfl | exact of_decide_eq_true rfl | exact ⟨rfl, of_decide_eq_true rfl⟩ | decide | assumption | exact .inl ⟨of_decide_eq_true rfl, of_decide_eq_true rfl⟩ | exact .inr ⟨of_decide_eq_true rfl, of_decide_eq_true rfl⟩ | exact ⟨by omega, by omega⟩)); conv => whnf)
          refine hk2 _ _ ⟨fun d hd => ?_, b2, b3, b4, b5, rfl⟩
          obtain ⟨w, hw, rfl⟩ := List.mem_map.mp (show d ∈ wordsL.map D.str from hd)
          exact ⟨w, hw, rfl⟩
        · rintro l ρ hr
          refine forI (fun l ρ => (∀ d ∈ l, ∃ w ∈ wordsL, d = .str w) ∧ eK ns ρ) hr ?_ ?_
          · rintro d l ρ ⟨hd, b2, b3, b4, b5, rfl⟩ ih
            obtain ⟨w, hw, rfl⟩ := hd d (List.mem_cons_self ..)
            obtain ⟨n1, n2⟩ := words_bad w hw
            refine for_step (i := 3) (.inl rfl) rfl ?_
            conv => whnf
            repeat ((with_reducible refine And.intro ?_ ?_); (focus (first | omega | rfl | exact True.intro | exact ⟨rfl, rfl⟩ | exact .inl rfl | exact of_decide_eq_true rfl | exact ⟨rfl, of_decide_eq_true rfl⟩ | decide | assumption | exact .inl ⟨of_decide_eq_true rfl, of_decide_eq_true rfl⟩ | exact .inr ⟨of_decide_eq_true rfl, of_decide_eq_true rfl⟩ | exact ⟨by omega, by omega⟩)); conv => whnf)
            refine told_t (a := .run (.str "a") (.str w)) (fun d hd => ?_) (.inr rfl) ?_
            · simp only [arL, List.drop_succ_cons, List.drop_zero, List.mem_cons, List.not_mem_nil, or_false] at hd
              rcases hd with rfl | rfl
              · decide +kernel
              · exact top5 n2
            rw [show wrA (.run (.str "a") (.str w)) = some ("then" : Str) by
              unfold wrA
              dsimp only
              rw [if_pos (by decide +kernel), if_neg (by rw [show nmB (.str w) = nameB w from rfl, n1]; simp)]]
            conv => whnf
            repeat ((with_reducible refine And.intro ?_ ?_); (focus (first | omega | rfl | exact True.intro | exact ⟨rfl, rfl⟩ | exact .inl rfl | exact of_decide_eq_true rfl | exact ⟨rfl, of_decide_eq_true rfl⟩ | decide | assumption | exact .inl ⟨of_decide_eq_true rfl, of_decide_eq_true rfl⟩ | exact .inr ⟨of_decide_eq_true rfl, of_decide_eq_true rfl⟩ | exact ⟨by omega, by omega⟩)); conv => whnf)
            exact ih _ ⟨fun d h => hd d (List.mem_cons_of_mem _ h), b2, _, b4, b5, rfl⟩
          · rintro ρ ⟨_, hr⟩
            exact hkk _ hr
      · rintro ρ ⟨b2, b3, b4, b5, rfl⟩
        conv => whnf
        repeat ((with_reducible refine And.intro ?_ ?_); (focus (first | omega | rfl | exact True.intro | exact ⟨rfl, rfl⟩ | exact .inl rfl | exact of_decide_eq_true rfl | exact ⟨rfl, of_decide_eq_true rfl⟩ | decide | assumption | exact .inl ⟨of_decide_eq_true rfl, of_decide_eq_true rfl⟩ | exact .inr ⟨of_decide_eq_true rfl, of_decide_eq_true rfl⟩ | exact ⟨by omega, by omega⟩)); conv => whnf)
        refine told_t (a := .run (.str "any") (.str "lead")) (by unfold okA; decide +kernel) (.inr rfl) ?_
        rw [show wrA (.run (.str "any") (.str "lead")) = none by decide +kernel]
        conv => whnf
        repeat ((with_reducible refine And.intro ?_ ?_); (focus (first | omega | rfl | exact True.intro | exact ⟨rfl, rfl⟩ | exact .inl rfl | exact of_decide_eq_true rfl | exact ⟨rfl, of_decide_eq_true rfl⟩ | decide | assumption | exact .inl ⟨of_decide_eq_true rfl, of_decide_eq_true rfl⟩ | exact .inr ⟨of_decide_eq_true rfl, of_decide_eq_true rfl⟩ | exact ⟨by omega, by omega⟩)); conv => whnf)
        refine told_t (a := .join (.str "any") (.str "any") (.str "any")) (by unfold okA; decide +kernel) (.inr rfl) ?_
        rw [show wrA (.join (.str "any") (.str "any") (.str "any")) = some ("then" : Str) by decide +kernel]
        conv => whnf
        repeat ((with_reducible refine And.intro ?_ ?_); (focus (first | omega | rfl | exact True.intro | exact ⟨rfl, rfl⟩ | exact .inl rfl | exact of_decide_eq_true rfl | exact ⟨rfl, of_decide_eq_true rfl⟩ | decide | assumption | exact .inl ⟨of_decide_eq_true rfl, of_decide_eq_true rfl⟩ | exact .inr ⟨of_decide_eq_true rfl, of_decide_eq_true rfl⟩ | exact ⟨by omega, by omega⟩)); conv => whnf)
        rfl
end Lw

set_option Elab.async false
set_option linter.all false
set_option maxRecDepth 100000
set_option maxHeartbeats 0
/-! the head, the defs' promises, the law -/
namespace Lw
open PySem PySem.Spec PyProof.Rows L2 DL
theorem sound {κ : KB} {P : Program} {w : World} {mg : Str → Option Value} {h : Heap} (KX : κ.K.In h) (Gn : h.Ns mainGlobals mg) (hnd : κ.nd = ndP P w) (hbx : κ.bx 0 = bx3) (hbo : ∀ q : Nat, κ.bx (2 * q + 1) = bxI q) (hbe : ∀ q : Nat, κ.bx (2 * q + 2) = bxD P w q) (hP : P = PySem.Challenge.pw_ledmarks_k03_rows_refused) (c : SaysX fa fb fn ex cs κ.K) :
    ∃ fd : FuncData, (∀ (s : Shared) (v : Value), BindsTo s fd ⟨[v], []⟩ [("_law_script", v)]) ∧ ∀ base : Heap, FnG P w κ.K mg base (L2.CX P w) 49 (He.ga κ.K "law") fd ["_law_script"] (spOf κ sm_law) := by
  have c0 := c
  have hfile : (PySem.Challenge.pw_ledmarks_k03_rows_refused.main.file : Str) = PySem.Challenge.pw_ledmarks_k03_rows_refused.main.file := rfl
  obtain ⟨fd_is_name, F_is_name⟩ := c.def_ 0
  obtain ⟨fd_is_sequence, F_is_sequence⟩ := c.def_ 1
  obtain ⟨fd_is_word, F_is_word⟩ := c.def_ 2
  obtain ⟨fd_are_unlike, F_are_unlike⟩ := c.def_ 3
  obtain ⟨fd_is_old_mark, F_is_old_mark⟩ := c.def_ 4
  obtain ⟨fd_part_of, F_part_of⟩ := c.def_ 5
  obtain ⟨fd_are_tests, F_are_tests⟩ := c.def_ 6
  obtain ⟨fd_names_among, F_names_among⟩ := c.def_ 7
  obtain ⟨fd_Run___init__, F_Run___init__⟩ := c.def_ 8
  obtain ⟨fd_Lead___init__, F_Lead___init__⟩ := c.def_ 9
  obtain ⟨fd_Join___init__, F_Join___init__⟩ := c.def_ 10
  obtain ⟨fd_Run___str__, F_Run___str__⟩ := c.def_ 11
  obtain ⟨fd_Lead___str__, F_Lead___str__⟩ := c.def_ 12
  obtain ⟨fd_Join___str__, F_Join___str__⟩ := c.def_ 13
  obtain ⟨fd_Row___eq__, F_Row___eq__⟩ := c.def_ 14
  obtain ⟨fd_row_in, F_row_in⟩ := c.def_ 15
  obtain ⟨fd_Row_read, F_Row_read⟩ := c.cm_ 0
  obtain ⟨fd__law_deal, F__law_deal⟩ := c.def_ 16
  obtain ⟨fd__law_draw, F__law_draw⟩ := c.def_ 17
  obtain ⟨fd__law_pick, F__law_pick⟩ := c.def_ 18
  obtain ⟨fd__law_mixed, F__law_mixed⟩ := c.def_ 19
  obtain ⟨fd__law_value, F__law_value⟩ := c.def_ 20
  obtain ⟨fd__law_marks, F__law_marks⟩ := c.def_ 21
  obtain ⟨fd__law_tests, F__law_tests⟩ := c.def_ 22
  obtain ⟨fd__law_row, F__law_row⟩ := c.def_ 23
  obtain ⟨fd__law_made, F__law_made⟩ := c.def_ 24
  obtain ⟨fd__law_is_name, F__law_is_name⟩ := c.def_ 25
  obtain ⟨fd__law_is_fit, F__law_is_fit⟩ := c.def_ 26
  obtain ⟨fd__law_are_tests, F__law_are_tests⟩ := c.def_ 27
  obtain ⟨fd__law_wrong, F__law_wrong⟩ := c.def_ 28
  obtain ⟨fd__law_told, F__law_told⟩ := c.def_ 29
  obtain ⟨fd__law_odd, F__law_odd⟩ := c.def_ 30
  obtain ⟨fd_law, F_law⟩ := c.def_ 31
  have bb := FunD.bindsA (ps := ["_law_script"]) F_law fun _ _ _ _ _ _ us hl => match us, hl with | [_], _ => rfl
  refine ⟨fd_law, fun s v => bb s [v] rfl, fun base => ?_⟩
  have G0 : TabG κ 0 P w mg base T0 := TabG.nil hnd
  have G1 : TabG κ 0 P w mg base T1 := G0.blt KX Gn (c.fact 0)
  have G2 : TabG κ 0 P w mg base T2 := G1.blt KX Gn (c.fact 1)
  have G3 : TabG κ 0 P w mg base T3 := G2.blt KX Gn (c.fact 2)
  have G4 : TabG κ 0 P w mg base T4 := G3.blt KX Gn (c.fact 3)
  have G5 : TabG κ 0 P w mg base T5 := G4.blt KX Gn (c.fact 4)
  have G6 : TabG κ 0 P w mg base T6 := G5.blt KX Gn (c.fact 5)
  have G7 : TabG κ 0 P w mg base T7 := G6.blt KX Gn (c.fact 6)
  have G8 : TabG κ 0 P w mg base T8 := G7.blt KX Gn (c.fact 7)
  have G9 : TabG κ 0 P w mg base T9 := G8.blt KX Gn (c.fact 8)
  have G10 : TabG κ 0 P w mg base T10 := G9.blt KX Gn (c.fact 9)
  have G11 : TabG κ 0 P w mg base T11 := G10.bty KX Gn (c.fact 10) (by rfl) (by decide)
  have G12 : TabG κ 0 P w mg base T12 := G11.bty KX Gn (c.fact 11) (by rfl) (by decide)
  have G13 : TabG κ 0 P w mg base T13 := G12.bty KX Gn (c.fact 12) (by rfl) (by decide)
  have G14 : TabG κ 0 P w mg base T14 := G13.bty KX Gn (c.fact 13) (by rfl) (by decide)
  have G15 : TabG κ 0 P w mg base T15 := G14.bty KX Gn (c.fact 14) (by rfl) (by decide)
  have G16 : TabG κ 0 P w mg base T16 := G15.str KX Gn (c.fact 15)
  have G17 : TabG κ 0 P w mg base T17 := G16.strs KX Gn (c.more 0) (c.fact 16)
  have G18 : TabG κ 0 P w mg base T18 := G17.strs KX Gn (c.more 1) (c.fact 17)
  have G19 : TabG κ 0 P w mg base T19 := G18.strs KX Gn (c.more 2) (c.fact 18)
  have G20 : TabG κ 0 P w mg base T20 := G19.strs KX Gn (c.more 3) (c.fact 19)
  have G21 : TabG κ 0 P w mg base T21 := G20.is (c0.more 4) (fun c h => by cases h)
  have G22 : TabG κ 0 P w mg base T22 := G21.is (c0.more 5) (fun c h => by cases h)
  have G23 : TabG κ 0 P w mg base T23 := G22.is (c0.more 6) (fun c h => by cases h)
  have G24 : TabG κ 0 P w mg base T24 := G23.is (c0.more 7) (fun c h => by cases h)
  have G25 : TabG κ 0 P w mg base T25 := G24.is (c0.more 8) (fun c h => by cases h)
  have G26 : TabG κ 0 P w mg base T26 := G25.is (c0.more 9) (fun c h => by cases h)
  have G27 : TabG κ 0 P w mg base T27 := G26.is (c0.more 10) (fun c h => by cases h)
  have G28 : TabG κ 0 P w mg base T28 := G27.is (c0.more 11) (fun c h => by cases h)
  have G29 : TabG κ 0 P w mg base T29 := G28.is (c0.more 12) (fun c h => by cases h)
  have G30 : TabG κ 0 P w mg base T30 := G29.is (c0.more 13) (fun c h => by cases h)
  have G31 : TabG κ 0 P w mg base T31 := G30.is (c0.more 14) (fun c h => by cases h)
  have G32 : TabG κ 0 P w mg base T32 := G31.is (c0.more 15) (fun c h => by cases h)
  have G33 : TabG κ 0 P w mg base T33 := G32.is (c0.more 16) (fun c h => by cases h)
  have G34 : TabG κ 0 P w mg base T34 := G33.is (c0.more 17) (fun c h => by cases h)
  have G35 : TabG κ 0 P w mg base T35 := G34.is (c0.more 18) (fun c h => by cases h)
  have G36 : TabG κ 0 P w mg base T36 := G35.is (c0.more 19) (fun c h => by cases h)
  have G37 : TabG κ 0 P w mg base T37 := G36.is (c0.more 20) (fun c h => by cases h)
  have G38 : TabG κ 0 P w mg base T38 := G37.is (c0.more 21) (fun c h => by cases h)
  have G39 : TabG κ 0 P w mg base T39 := G38.is (c0.more 22) (fun c h => by cases h)
  have G40 : TabG κ 0 P w mg base T40 := G39.is (c0.more 23) (fun c h => by cases h)
  have G41 : TabG κ 0 P w mg base T41 := G40.is (c0.more 24) (fun c h => by cases h)
  have G42 : TabG κ 0 P w mg base T42 := G41.is (c0.more 25) (fun c h => by cases h)
  have G43 : TabG κ 0 P w mg base T43 := G42.is (c0.more 26) (fun c h => by cases h)
  have G44 : TabG κ 0 P w mg base T44 := G43.is (c0.more 27) (fun c h => by cases h)
  have G45 : TabG κ 0 P w mg base T45 := G44.is (c0.more 28) (fun c h => by cases h)
  have G46 : TabG κ 0 P w mg base T46 := G45.is (c0.more 29) (fun c h => by cases h)
  have G47 : TabG κ 0 P w mg base T47 := G46.is (c0.more 30) (fun c h => by cases h)
  have G48 : TabG κ 0 P w mg base T48 := G47.is (c0.more 31) (fun c h => by cases h)
  have G49 : TabG κ 0 P w mg base T49 := G48.is (c0.more 32) (fun c h => by cases h)
  have G50 : TabG κ 0 P w mg base T50 := G49.is (c0.more 33) (fun c h => by cases h)
  have G51 : TabG κ 0 P w mg base T51 := G50.is (c0.more 35) (fun c h => by cases h; exact clsI_ok (c0.more 34))
  have G52 : TabG κ 0 P w mg base T52 := G51.is (c0.more 36) (fun c h => by cases h; exact clsI_ok (c0.more 34))
  have G53 : TabG κ 0 P w mg base T53 := G52.is (c0.more 37) (fun c h => by cases h; exact clsI_ok (c0.more 34))
  have G54 : TabG κ 0 P w mg base T54 := G53.is (c0.more 38) (fun c h => by cases h; exact clsI_ok (c0.more 34))
  have G55 : TabG κ 0 P w mg base T55 := G54.is (c0.more 39) (fun c h => by cases h; exact clsI_ok (c0.more 34))
  have G56 : TabG κ 0 P w mg base T56 := G55.is (c0.more 40) (fun c h => by cases h; exact clsI_ok (c0.more 34))
  have G57 : TabG κ 0 P w mg base T57 := G56.is (c0.more 41) (fun c h => by cases h; exact clsI_ok (c0.more 34))
  have G58 : TabG κ 0 P w mg base T58 := G57.is (c0.more 42) (fun c h => by cases h; exact clsI_ok (c0.more 34))
  have G59 : TabG κ 0 P w mg base T59 := G58.is (c0.more 43) (fun c h => by cases h; exact clsI_ok (c0.more 34))
  have G60 : TabG κ 0 P w mg base T60 := G59.is (c0.more 45) (fun c h => by cases h; exact clsI_ok (c0.more 44))
  have G61 : TabG κ 0 P w mg base T61 := G60.is (c0.more 46) (fun c h => by cases h; exact clsI_ok (c0.more 44))
  have G62 : TabG κ 0 P w mg base T62 := G61.is (c0.more 47) (fun c h => by cases h; exact clsI_ok (c0.more 44))
  have G63 : TabG κ 0 P w mg base T63 := G62.is (c0.more 48) (fun c h => by cases h; exact clsI_ok (c0.more 44))
  have G64 : TabG κ 0 P w mg base T64 := G63.is (c0.more 49) (fun c h => by cases h; exact clsI_ok (c0.more 44))
  have G65 : TabG κ 0 P w mg base T65 := G64.is (c0.more 50) (fun c h => by cases h; exact clsI_ok (c0.more 44))
  have G66 : TabG κ 0 P w mg base T66 := G65.is (c0.more 51) (fun c h => by cases h; exact clsI_ok (c0.more 44))
  have G67 : TabG κ 0 P w mg base T67 := G66.is (c0.more 52) (fun c h => by cases h; exact clsI_ok (c0.more 44))
  have G68 : TabG κ 0 P w mg base T68 := G67.is (c0.more 53) (fun c h => by cases h; exact clsI_ok (c0.more 44))
  have G69 : TabG κ 0 P w mg base T69 := G68.is (c0.more 55) (fun c h => by cases h; exact clsI_ok (c0.more 54))
  have G70 : TabG κ 0 P w mg base T70 := G69.is (c0.more 56) (fun c h => by cases h; exact clsI_ok (c0.more 54))
  have G71 : TabG κ 0 P w mg base T71 := G70.is (c0.more 57) (fun c h => by cases h; exact clsI_ok (c0.more 54))
  have G72 : TabG κ 0 P w mg base T72 := G71.is (c0.more 58) (fun c h => by cases h; exact clsI_ok (c0.more 54))
  have G73 : TabG κ 0 P w mg base T73 := G72.is (c0.more 59) (fun c h => by cases h; exact clsI_ok (c0.more 54))
  have G74 : TabG κ 0 P w mg base T74 := G73.is (c0.more 60) (fun c h => by cases h; exact clsI_ok (c0.more 54))
  have G75 : TabG κ 0 P w mg base T75 := G74.is (c0.more 61) (fun c h => by cases h; exact clsI_ok (c0.more 54))
  have G76 : TabG κ 0 P w mg base T76 := G75.is (c0.more 62) (fun c h => by cases h; exact clsI_ok (c0.more 54))
  have G77 : TabG κ 0 P w mg base T77 := G76.is (c0.more 63) (fun c h => by cases h; exact clsI_ok (c0.more 54))
  have G78 : TabG κ 0 P w mg base T78 := G77.is (c0.more 64) (fun c h => by cases h)
  have G79 : TabG κ 0 P w mg base T79 := G78.is (c0.more 65) (fun c h => by cases h)
  have G80 : TabG κ 0 P w mg base T80 := G79.is (c0.more 66) (fun c h => by cases h)
  have G81 : TabG κ 0 P w mg base T81 := G80.is (c0.more 67) (fun c h => by cases h)
  have G82 : TabG κ 0 P w mg base T82 := G81.is (c0.more 68) (fun c h => by cases h)
  have G83 : TabG κ 0 P w mg base T83 := G82.is (c0.more 69) (fun c h => by cases h)
  have G84 : TabG κ 0 P w mg base T84 := G83.is (c0.more 70) (fun c h => by cases h)
  have G85 : TabG κ 0 P w mg base T85 := G84.is (c0.more 71) (fun c h => by cases h)
  have G86 : TabG κ 0 P w mg base T86 := G85.is (c0.more 72) (fun c h => by cases h)
  have G87 : TabG κ 0 P w mg base T87 := G86.is (c0.more 73) (fun c h => by cases h)
  have G88 : TabG κ 0 P w mg base T88 := G87.is (c0.more 74) (fun c h => by cases h)
  have G89 : TabG κ 0 P w mg base T89 := G88.is (c0.more 75) (fun c h => by cases h)
  have G90 : TabG κ 0 P w mg base T90 := G89.is (c0.more 76) (fun c h => by cases h)
  have G91 : TabG κ 0 P w mg base T91 := G90.is (c0.more 77) (fun c h => by cases h)
  have G92 : TabG κ 0 P w mg base T92 := G91.is (c0.more 78) (fun c h => by cases h)
  have G93 : TabG κ 0 P w mg base T93 := G92.is (c0.more 79) (fun c h => by cases h)
  have G94 : TabG κ 0 P w mg base T94 := G93.is (c0.more 80) (fun c h => by cases h)
  have G95 : TabG κ 0 P w mg base T95 := G94.is (c0.more 81) (fun c h => by cases h)
  have G96 : TabG κ 0 P w mg base T96 := G95.is (c0.more 82) (fun c h => by cases h)
  have G97 : TabG κ 0 P w mg base T97 := G96.is (c0.more 83) (fun c h => by cases h)
  have G98 : TabG κ 0 P w mg base T98 := G97.is (c0.more 84) (fun c h => by cases h)
  have G99 : TabG κ 0 P w mg base T99 := G98.is (c0.more 85) (fun c h => by cases h)
  have G100 : TabG κ 0 P w mg base T100 := G99.is (c0.more 86) (fun c h => by cases h)
  have G101 : TabG κ 0 P w mg base T101 := G100.is (c0.more 87) (fun c h => by cases h)
  have G102 : TabG κ 0 P w mg base T102 := G101.field ⟨He.cls_ok (c.fact 20), He.noat_ok (c.fact 21)⟩
  have G103 : TabG κ 0 P w mg base T103 := G102.field ⟨He.cls_ok (c.fact 20), He.noat_ok (c.fact 22)⟩
  have G104 : TabG κ 0 P w mg base T104 := G103.field ⟨He.cls_ok (c.fact 20), He.noat_ok (c.fact 23)⟩
  have G105 : TabG κ 0 P w mg base T105 := G104.field ⟨He.cls_ok (c.fact 24), He.noat_ok (c.fact 25)⟩
  have G106 : TabG κ 0 P w mg base T106 := G105.field ⟨He.cls_ok (c.fact 24), He.noat_ok (c.fact 26)⟩
  have G107 : TabG κ 0 P w mg base T107 := G106.field ⟨He.cls_ok (c.fact 24), He.noat_ok (c.fact 27)⟩
  have G108 : TabG κ 0 P w mg base T108 := G107.field ⟨He.cls_ok (c.fact 24), He.noat_ok (c.fact 28)⟩
  have G109 : TabG κ 0 P w mg base T109 := G108.field ⟨He.cls_ok (c.fact 29), He.noat_ok (c.fact 30)⟩
  have G110 : TabG κ 0 P w mg base T110 := G109.field ⟨He.cls_ok (c.fact 29), He.noat_ok (c.fact 31)⟩
  have G111 : TabG κ 0 P w mg base T111 := G110.field ⟨He.cls_ok (c.fact 29), He.noat_ok (c.fact 32)⟩
  have G112 : TabG κ 0 P w mg base T112 := G111.field ⟨He.cls_ok (c.fact 29), He.noat_ok (c.fact 33)⟩
  have G113 : TabG κ 0 P w mg base T113 := TabG.clv KX Gn G112 (c.fact 34)
  have G114 : TabG κ 0 P w mg base T114 := TabG.clv KX Gn G113 (c.fact 35)
  have G115 : TabG κ 0 P w mg base T115 := TabG.clv KX Gn G114 (c.fact 36)
  have G116 : TabG κ 0 P w mg base T116 := TabG.clv KX Gn G115 (c.fact 37)
  have G117 : TabG κ 0 P w mg base T117 := TabG.clv KX Gn G116 (c.fact 38)
  have G118 : TabG κ 0 P w mg base T118 := G117.fx (fun X h1 h2 h3 => exc_ok KX Gn (by decide) (c0.fact 35) (c0.fact 39) (c0.more 88) (c0.exc_ 0) hfile s_x_InvalidRow X h1 (h2.trans hP) h3)
  have G119 : TabG κ 0 P w mg base T119 := G118.xat (c0.more 89)
  have G120 : TabG κ 0 P w mg base T120 := G119.isx (c0.more 90)
  have G121 : TabG κ 0 P w mg base T121 := G120.isx (c0.more 91)
  have G122 : TabG κ 0 P w mg base T122 := G121.exm (c0.more 92)
  have G123 : TabG κ 0 P w mg base T123 := G122.lend "_law_told"
  have G124 : TabG κ 0 P w mg base T124 := G123.lend "_law_wrong"
  have G125 : TabG κ 0 P w mg base T125 := G124.eqc (c0.more 93)
  have G126 : TabG κ 0 P w mg base T126 := G125.eqc (c0.more 94)
  have G127 : TabG κ 0 P w mg base T127 := G126.eqc (c0.more 95)
  have G128 : TabG κ 0 P w mg base T128 := G127.eqc (c0.more 96)
  have G129 : TabG κ 0 P w mg base T129 := G128.eqc (c0.more 97)
  have G130 : TabG κ 0 P w mg base T130 := G129.eqc (c0.more 98)
  have G131 : TabG κ 0 P w mg base T131 := G130.eqc (c0.more 99)
  have G132 : TabG κ 0 P w mg base T132 := G131.eqc (c0.more 100)
  have G133 : TabG κ 0 P w mg base T133 := G132.eqc (c0.more 101)
  have G134 : TabG κ 0 P w mg base T134 := G133.fx (fun X h1 h2 h3 => hbo)
  have b_is_name : Binds κ.K fd_is_name ps_is_name [] := F_is_name.bindsN fun _ _ _ _ _ _ us hl => match us, hl with | [_], _ => rfl
  have R_is_name : FnG P w κ.K mg base (CXb true P w) 1 (He.ga κ.K "is_name") fd_is_name ps_is_name (spOf κ sm_is_name) := by
    unfold sm_is_name
    exact fn_sound G134 (fun _ => rfl) F_is_name sc_is_name 40
  have G135 : TabG κ 1 P w mg base T135 := (G134.mono (Nat.le_succ _)).fn KX Gn (c.fact 40) F_is_name.kp b_is_name R_is_name (Nat.le_refl _)
  have b_is_sequence : Binds κ.K fd_is_sequence ps_is_sequence [] := F_is_sequence.bindsN fun _ _ _ _ _ _ us hl => match us, hl with | [_], _ => rfl
  have R_is_sequence : FnG P w κ.K mg base (CXb true P w) 2 (He.ga κ.K "is_sequence") fd_is_sequence ps_is_sequence (spOf κ sm_is_sequence) := by
    unfold sm_is_sequence
    exact fn_sound G135 (fun _ => rfl) F_is_sequence sc_is_sequence 40
  have G136 : TabG κ 2 P w mg base T136 := (G135.mono (Nat.le_succ _)).fn KX Gn (c.fact 41) F_is_sequence.kp b_is_sequence R_is_sequence (Nat.le_refl _)
  have b_is_word : Binds κ.K fd_is_word ps_is_word [] := F_is_word.bindsN fun _ _ _ _ _ _ us hl => match us, hl with | [_, _], _ => rfl
  have R_is_word : FnG P w κ.K mg base (CXb true P w) 3 (He.ga κ.K "is_word") fd_is_word ps_is_word (spOf κ sm_is_word) := by
    unfold sm_is_word
    exact fn_sound G136 (fun _ => rfl) F_is_word sc_is_word 40
  have G137 : TabG κ 3 P w mg base T137 := (G136.mono (Nat.le_succ _)).fn KX Gn (c.fact 42) F_is_word.kp b_is_word R_is_word (Nat.le_refl _)
  have b_are_unlike : Binds κ.K fd_are_unlike ps_are_unlike [] := F_are_unlike.bindsN fun _ _ _ _ _ _ us hl => match us, hl with | [_], _ => rfl
  have R_are_unlike : FnG P w κ.K mg base (CXb true P w) 4 (He.ga κ.K "are_unlike") fd_are_unlike ps_are_unlike (spOf κ sm_are_unlike) := by
    unfold sm_are_unlike
    exact fn_sound G137 (fun _ => rfl) F_are_unlike sc_are_unlike 40
  have G138 : TabG κ 4 P w mg base T138 := (G137.mono (Nat.le_succ _)).fn KX Gn (c.fact 43) F_are_unlike.kp b_are_unlike R_are_unlike (Nat.le_refl _)
  have b_is_old_mark : Binds κ.K fd_is_old_mark ps_is_old_mark [] := F_is_old_mark.bindsN fun _ _ _ _ _ _ us hl => match us, hl with | [_], _ => rfl
  have R_is_old_mark : FnG P w κ.K mg base (CXb true P w) 5 (He.ga κ.K "is_old_mark") fd_is_old_mark ps_is_old_mark (spOf κ sm_is_old_mark) := by
    unfold sm_is_old_mark
    exact fn_sound G138 (fun _ => rfl) F_is_old_mark sc_is_old_mark 40
  have G139 : TabG κ 5 P w mg base T139 := (G138.mono (Nat.le_succ _)).fn KX Gn (c.fact 44) F_is_old_mark.kp b_is_old_mark R_is_old_mark (Nat.le_refl _)
  have b_part_of : Binds κ.K fd_part_of ps_part_of [] := F_part_of.bindsN fun _ _ _ _ _ _ us hl => match us, hl with | [_], _ => rfl
  have R_part_of : FnG P w κ.K mg base (CXb true P w) 6 (He.ga κ.K "part_of") fd_part_of ps_part_of (spOf κ sm_part_of) := by
    unfold sm_part_of
    exact fn_sound G139 (fun _ => rfl) F_part_of sc_part_of 40
  have G140 : TabG κ 6 P w mg base T140 := (G139.mono (Nat.le_succ _)).fn KX Gn (c.fact 45) F_part_of.kp b_part_of R_part_of (Nat.le_refl _)
  have b_are_tests : Binds κ.K fd_are_tests ps_are_tests [] := F_are_tests.bindsN fun _ _ _ _ _ _ us hl => match us, hl with | [_], _ => rfl
  have R_are_tests : FnG P w κ.K mg base (CXb true P w) 7 (He.ga κ.K "are_tests") fd_are_tests ps_are_tests (spOf κ sm_are_tests) := by
    unfold sm_are_tests
    exact fn_sound G140 (fun _ => rfl) F_are_tests sc_are_tests 40
  have G141 : TabG κ 7 P w mg base T141 := (G140.mono (Nat.le_succ _)).fn KX Gn (c.fact 46) F_are_tests.kp b_are_tests R_are_tests (Nat.le_refl _)
  have b_names_among : Binds κ.K fd_names_among ps_names_among [] := F_names_among.bindsN fun _ _ _ _ _ _ us hl => match us, hl with | [_], _ => rfl
  have R_names_among : FnG P w κ.K mg base (CXb true P w) 8 (He.ga κ.K "names_among") fd_names_among ps_names_among (spOf κ sm_names_among) := by
    unfold sm_names_among
    exact fn_sound G141 (fun _ => rfl) F_names_among sc_names_among 40
  have G142 : TabG κ 8 P w mg base T142 := (G141.mono (Nat.le_succ _)).fn KX Gn (c.fact 47) F_names_among.kp b_names_among R_names_among (Nat.le_refl _)
  have b_Run___init__ : Binds κ.K fd_Run___init__ ps_Run___init__ [] := F_Run___init__.bindsN fun _ _ _ _ _ _ us hl => match us, hl with | [_, _, _], _ => rfl
  have R_Run___init__ : FnG P w κ.K mg base (CXb true P w) 9 (He.ma κ.K (He.ga κ.K "Run") "__init__") fd_Run___init__ ps_Run___init__ (spIn κ "Run" sm_Run___init__) := by
    unfold sm_Run___init__
    exact init_sound G142 (fun _ => rfl) F_Run___init__ sc_Run___init__ 40
  have G143 : TabG κ 10 P w mg base T143 := (G142.mono (Nat.le_add_right _ 2)).cls KX Gn (c.fact 48) (c.fact 49) b_Run___init__ R_Run___init__ (Nat.le_refl _)
  have b_Lead___init__ : Binds κ.K fd_Lead___init__ ps_Lead___init__ [] := F_Lead___init__.bindsN fun _ _ _ _ _ _ us hl => match us, hl with | [_, _, _, _], _ => rfl
  have R_Lead___init__ : FnG P w κ.K mg base (CXb true P w) 11 (He.ma κ.K (He.ga κ.K "Lead") "__init__") fd_Lead___init__ ps_Lead___init__ (spIn κ "Lead" sm_Lead___init__) := by
    unfold sm_Lead___init__
    exact init_sound G143 (fun _ => rfl) F_Lead___init__ sc_Lead___init__ 40
  have G144 : TabG κ 12 P w mg base T144 := (G143.mono (Nat.le_add_right _ 2)).cls KX Gn (c.fact 50) (c.fact 51) b_Lead___init__ R_Lead___init__ (Nat.le_refl _)
  have b_Join___init__ : Binds κ.K fd_Join___init__ ps_Join___init__ [] := F_Join___init__.bindsN fun _ _ _ _ _ _ us hl => match us, hl with | [_, _, _, _], _ => rfl
  have R_Join___init__ : FnG P w κ.K mg base (CXb true P w) 13 (He.ma κ.K (He.ga κ.K "Join") "__init__") fd_Join___init__ ps_Join___init__ (spIn κ "Join" sm_Join___init__) := by
    unfold sm_Join___init__
    exact init_sound G144 (fun _ => rfl) F_Join___init__ sc_Join___init__ 40
  have G145 : TabG κ 14 P w mg base T145 := (G144.mono (Nat.le_add_right _ 2)).cls KX Gn (c.fact 52) (c.fact 53) b_Join___init__ R_Join___init__ (Nat.le_refl _)
  have b_Run___str__ : Binds κ.K fd_Run___str__ ps_Run___str__ [] := F_Run___str__.bindsN fun _ _ _ _ _ _ us hl => match us, hl with | [_], _ => rfl
  have R_Run___str__ : FnG P w κ.K mg base (CXb true P w) 15 (He.ma κ.K (He.ga κ.K "Run") "__str__") fd_Run___str__ ps_Run___str__ (spOf κ sm_Run___str__) := by
    unfold sm_Run___str__
    exact fn_sound G145 (fun _ => rfl) F_Run___str__ sc_Run___str__ 40
  have G146 : TabG κ 17 P w mg base T146 := (G145.mono (Nat.le_add_right _ 3)).mt (c.fact 20) (c.fact 54) b_Run___str__ R_Run___str__ (Nat.le_refl _) (funD_fn F_Run___str__)
  have b_Lead___str__ : Binds κ.K fd_Lead___str__ ps_Lead___str__ [] := F_Lead___str__.bindsN fun _ _ _ _ _ _ us hl => match us, hl with | [_], _ => rfl
  have R_Lead___str__ : FnG P w κ.K mg base (CXb true P w) 18 (He.ma κ.K (He.ga κ.K "Lead") "__str__") fd_Lead___str__ ps_Lead___str__ (spOf κ sm_Lead___str__) := by
    unfold sm_Lead___str__
    exact fn_sound G146 (fun _ => rfl) F_Lead___str__ sc_Lead___str__ 40
  have G147 : TabG κ 20 P w mg base T147 := (G146.mono (Nat.le_add_right _ 3)).mt (c.fact 24) (c.fact 55) b_Lead___str__ R_Lead___str__ (Nat.le_refl _) (funD_fn F_Lead___str__)
  have b_Join___str__ : Binds κ.K fd_Join___str__ ps_Join___str__ [] := F_Join___str__.bindsN fun _ _ _ _ _ _ us hl => match us, hl with | [_], _ => rfl
  have R_Join___str__ : FnG P w κ.K mg base (CXb true P w) 21 (He.ma κ.K (He.ga κ.K "Join") "__str__") fd_Join___str__ ps_Join___str__ (spOf κ sm_Join___str__) := by
    unfold sm_Join___str__
    exact fn_sound G147 (fun _ => rfl) F_Join___str__ sc_Join___str__ 40
  have G148 : TabG κ 23 P w mg base T148 := (G147.mono (Nat.le_add_right _ 3)).mt (c.fact 29) (c.fact 56) b_Join___str__ R_Join___str__ (Nat.le_refl _) (funD_fn F_Join___str__)
  have b_Row___eq__ : Binds κ.K fd_Row___eq__ ps_Row___eq__ [] := F_Row___eq__.bindsN fun _ _ _ _ _ _ us hl => match us, hl with | [_, _], _ => rfl
  have R_Row___eq__ : FnG P w κ.K mg base (CXb true P w) 24 (He.ma κ.K (He.ga κ.K "Row") "__eq__") fd_Row___eq__ ps_Row___eq__ (spOf κ sm_Row___eq__) := by
    unfold sm_Row___eq__
    exact fn_sound G148 (fun _ => rfl) F_Row___eq__ sc_Row___eq__ 40
  have G149 : TabG κ 26 P w mg base T149 := (G148.mono (Nat.le_add_right _ 3)).mt (c.fact 57) (c.fact 58) b_Row___eq__ R_Row___eq__ (Nat.le_refl _) (funD_fn F_Row___eq__)
  have G150 : TabG κ 26 P w mg base T150 := G149.mti (c0.more 102) (c.fact 20) (c.fact 59) b_Row___eq__ R_Row___eq__ (by decide) (funD_fn F_Row___eq__)
  have G151 : TabG κ 26 P w mg base T151 := G150.mti (c0.more 103) (c.fact 24) (c.fact 60) b_Row___eq__ R_Row___eq__ (by decide) (funD_fn F_Row___eq__)
  have G152 : TabG κ 26 P w mg base T152 := G151.mti (c0.more 104) (c.fact 29) (c.fact 61) b_Row___eq__ R_Row___eq__ (by decide) (funD_fn F_Row___eq__)
  have b_row_in : Binds κ.K fd_row_in ps_row_in [] := F_row_in.bindsN fun _ _ _ _ _ _ us hl => match us, hl with | [_], _ => rfl
  have R_row_in : FnG P w κ.K mg base (CXb true P w) 27 (He.ga κ.K "row_in") fd_row_in ps_row_in (spOf κ sm_row_in) := by
    unfold sm_row_in
    exact fn_sound G152 (fun _ => rfl) F_row_in sc_row_in 40
  have G153 : TabG κ 27 P w mg base T153 := (G152.mono (Nat.le_succ _)).fn KX Gn (c.fact 62) F_row_in.kp b_row_in R_row_in (Nat.le_refl _)
  have b_Row_read : Binds κ.K fd_Row_read ps_Row_read [] := F_Row_read.bindsN fun _ _ _ _ _ _ us hl => match us, hl with | [_, _], _ => rfl
  have R_Row_read : FnG P w κ.K mg base (CXb true P w) 28 (cmA κ.K ("Row", some "read")) fd_Row_read ps_Row_read (spOf κ sm_Row_read) := by
    unfold sm_Row_read
    exact fn_sound G153 (fun _ => rfl) F_Row_read sc_Row_read 40
  have G154 : TabG κ 30 P w mg base T154 := (G153.mono (Nat.le_add_right _ 3)).cmeth (c0.more 105) b_Row_read R_Row_read (Nat.le_refl _)
  have b__law_deal : Binds κ.K fd__law_deal ps__law_deal [] := F__law_deal.bindsN fun _ _ _ _ _ _ us hl => match us, hl with | [_, _], _ => rfl
  have R__law_deal : FnG P w κ.K mg base (CXb true P w) 31 (He.ga κ.K "_law_deal") fd__law_deal ps__law_deal (spOf κ smDeal) := by
    refine deal_sound (sm := sx__law_deal) hbo hbe hnd ?_ rfl hx__law_deal
    unfold sx__law_deal
    exact fn_sound G154 (fun _ => rfl) F__law_deal sc__law_deal 40
  have G155 : TabG κ 31 P w mg base T155 := (G154.mono (Nat.le_succ _)).fn KX Gn (c.fact 63) F__law_deal.kp b__law_deal R__law_deal (Nat.le_refl _)
  have b__law_draw : Binds κ.K fd__law_draw ps__law_draw [] := F__law_draw.bindsN fun _ _ _ _ _ _ us hl => match us, hl with | [_, _], _ => rfl
  have R__law_draw : FnG P w κ.K mg base (CXb true P w) 32 (He.ga κ.K "_law_draw") fd__law_draw ps__law_draw (spOf κ smDraw) := by
    refine draw_sound (sm := sx__law_draw) hbo hbe hnd ?_ rfl hx__law_draw
    unfold sx__law_draw
    exact own_sound G155 (fun _ => rfl) F__law_draw sc__law_draw 40
  have G156 : TabG κ 32 P w mg base T156 := (G155.mono (Nat.le_succ _)).fn KX Gn (c.fact 64) F__law_draw.kp b__law_draw R__law_draw (Nat.le_refl _)
  have b__law_pick : Binds κ.K fd__law_pick ps__law_pick [] := F__law_pick.bindsN fun _ _ _ _ _ _ us hl => match us, hl with | [_, _], _ => rfl
  have R__law_pick : FnG P w κ.K mg base (CXb true P w) 33 (He.ga κ.K "_law_pick") fd__law_pick ps__law_pick (spOf κ sm__law_pick) := by
    unfold sm__law_pick
    exact fn_sound G156 (fun _ => rfl) F__law_pick sc__law_pick 40
  have G157 : TabG κ 33 P w mg base T157 := (G156.mono (Nat.le_succ _)).fn KX Gn (c.fact 65) F__law_pick.kp b__law_pick R__law_pick (Nat.le_refl _)
  have b__law_mixed : Binds κ.K fd__law_mixed ps__law_mixed [] := F__law_mixed.bindsN fun _ _ _ _ _ _ us hl => match us, hl with | [_, _], _ => rfl
  have R__law_mixed : FnG P w κ.K mg base (CXb true P w) 34 (He.ga κ.K "_law_mixed") fd__law_mixed ps__law_mixed (spOf κ sm__law_mixed) := by
    unfold sm__law_mixed
    exact fn_sound G157 (fun _ => rfl) F__law_mixed sc__law_mixed 40
  have G158 : TabG κ 34 P w mg base T158 := (G157.mono (Nat.le_succ _)).fn KX Gn (c.fact 66) F__law_mixed.kp b__law_mixed R__law_mixed (Nat.le_refl _)
  have b__law_value : Binds κ.K fd__law_value ps__law_value [] := F__law_value.bindsN fun _ _ _ _ _ _ us hl => match us, hl with | [_, _], _ => rfl
  have R__law_value_0 : FnG P w κ.K mg base (CXb true P w) 35 (He.ga κ.K "_law_value") fd__law_value ps__law_value (spOf κ sm__law_value_0) := by
    unfold sm__law_value_0
    exact fn_sound G158 (fun _ => rfl) F__law_value sc__law_value 40
  have G159 : TabG κ 35 P w mg base T159 := (G158.mono (Nat.le_succ _)).fn KX Gn (c.fact 67) F__law_value.kp b__law_value R__law_value_0 (Nat.le_refl _)
  have R__law_value_1 : FnG P w κ.K mg base (CXb true P w) 36 (He.ga κ.K "_law_value") fd__law_value ps__law_value (spOf κ sm__law_value_1) := by
    unfold sm__law_value_1
    exact fn_sound G159 (fun _ => rfl) F__law_value sc__law_value 40
  have G160 : TabG κ 36 P w mg base T160 := (G159.mono (Nat.le_succ _)).fn KX Gn (c.fact 67) F__law_value.kp b__law_value R__law_value_1 (Nat.le_refl _)
  have R__law_value_2 : FnG P w κ.K mg base (CXb true P w) 37 (He.ga κ.K "_law_value") fd__law_value ps__law_value (spOf κ sm__law_value_2) := by
    unfold sm__law_value_2
    exact fn_sound G160 (fun _ => rfl) F__law_value sc__law_value 40
  have G161 : TabG κ 37 P w mg base T161 := (G160.mono (Nat.le_succ _)).fn KX Gn (c.fact 67) F__law_value.kp b__law_value R__law_value_2 (Nat.le_refl _)
  have R__law_value : FnG P w κ.K mg base (CXb true P w) 38 (He.ga κ.K "_law_value") fd__law_value ps__law_value (spOf κ sm__law_value) := by
    unfold sm__law_value
    exact fn_sound G161 (fun _ => rfl) F__law_value sc__law_value 40
  have G162 : TabG κ 38 P w mg base T162 := (G161.mono (Nat.le_succ _)).fn KX Gn (c.fact 67) F__law_value.kp b__law_value R__law_value (Nat.le_refl _)
  have b__law_marks : Binds κ.K fd__law_marks ps__law_marks [] := F__law_marks.bindsN fun _ _ _ _ _ _ us hl => match us, hl with | [_, _], _ => rfl
  have R__law_marks : FnG P w κ.K mg base (CXb true P w) 39 (He.ga κ.K "_law_marks") fd__law_marks ps__law_marks (spOf κ sm__law_marks) := by
    unfold sm__law_marks
    exact fn_sound G162 (fun _ => rfl) F__law_marks sc__law_marks 40
  have G163 : TabG κ 39 P w mg base T163 := (G162.mono (Nat.le_succ _)).fn KX Gn (c.fact 68) F__law_marks.kp b__law_marks R__law_marks (Nat.le_refl _)
  have b__law_tests : Binds κ.K fd__law_tests ps__law_tests [] := F__law_tests.bindsN fun _ _ _ _ _ _ us hl => match us, hl with | [_], _ => rfl
  have R__law_tests : FnG P w κ.K mg base (CXb true P w) 40 (He.ga κ.K "_law_tests") fd__law_tests ps__law_tests (spOf κ sm__law_tests) := by
    unfold sm__law_tests
    exact fn_sound G163 (fun _ => rfl) F__law_tests sc__law_tests 40
  have G164 : TabG κ 40 P w mg base T164 := (G163.mono (Nat.le_succ _)).fn KX Gn (c.fact 69) F__law_tests.kp b__law_tests R__law_tests (Nat.le_refl _)
  have b__law_row : Binds κ.K fd__law_row ps__law_row [] := F__law_row.bindsN fun _ _ _ _ _ _ us hl => match us, hl with | [_, _], _ => rfl
  have R__law_row : FnG P w κ.K mg base (CXb true P w) 41 (He.ga κ.K "_law_row") fd__law_row ps__law_row (spOf κ sm__law_row) := by
    unfold sm__law_row
    exact fn_sound G164 (fun _ => rfl) F__law_row sc__law_row 40
  have G165 : TabG κ 41 P w mg base T165 := (G164.mono (Nat.le_succ _)).fn KX Gn (c.fact 70) F__law_row.kp b__law_row R__law_row (Nat.le_refl _)
  have b__law_made : Binds κ.K fd__law_made ps__law_made [] := F__law_made.bindsN fun _ _ _ _ _ _ us hl => match us, hl with | [_], _ => rfl
  have R__law_made : FnG P w κ.K mg base (CXb true P w) 42 (He.ga κ.K "_law_made") fd__law_made ps__law_made (spOf κ sm__law_made) := by
    unfold sm__law_made
    exact fn_sound G165 (fun _ => rfl) F__law_made sc__law_made 40
  have G166 : TabG κ 42 P w mg base T166 := (G165.mono (Nat.le_succ _)).fn KX Gn (c.fact 71) F__law_made.kp b__law_made R__law_made (Nat.le_refl _)
  have b__law_is_name : Binds κ.K fd__law_is_name ps__law_is_name [] := F__law_is_name.bindsN fun _ _ _ _ _ _ us hl => match us, hl with | [_], _ => rfl
  have R__law_is_name : FnG P w κ.K mg base (CXb true P w) 43 (He.ga κ.K "_law_is_name") fd__law_is_name ps__law_is_name (spOf κ sm__law_is_name) := by
    unfold sm__law_is_name
    exact fn_sound G166 (fun _ => rfl) F__law_is_name sc__law_is_name 40
  have G167 : TabG κ 43 P w mg base T167 := (G166.mono (Nat.le_succ _)).fn KX Gn (c.fact 72) F__law_is_name.kp b__law_is_name R__law_is_name (Nat.le_refl _)
  have b__law_is_fit : Binds κ.K fd__law_is_fit ps__law_is_fit [] := F__law_is_fit.bindsN fun _ _ _ _ _ _ us hl => match us, hl with | [_, _], _ => rfl
  have R__law_is_fit : FnG P w κ.K mg base (CXb true P w) 44 (He.ga κ.K "_law_is_fit") fd__law_is_fit ps__law_is_fit (spOf κ sm__law_is_fit) := by
    unfold sm__law_is_fit
    exact fn_sound G167 (fun _ => rfl) F__law_is_fit sc__law_is_fit 40
  have G168 : TabG κ 44 P w mg base T168 := (G167.mono (Nat.le_succ _)).fn KX Gn (c.fact 73) F__law_is_fit.kp b__law_is_fit R__law_is_fit (Nat.le_refl _)
  have b__law_are_tests : Binds κ.K fd__law_are_tests ps__law_are_tests [] := F__law_are_tests.bindsN fun _ _ _ _ _ _ us hl => match us, hl with | [_], _ => rfl
  have R__law_are_tests : FnG P w κ.K mg base (CXb true P w) 45 (He.ga κ.K "_law_are_tests") fd__law_are_tests ps__law_are_tests (spOf κ sm__law_are_tests) := by
    unfold sm__law_are_tests
    exact fn_sound G168 (fun _ => rfl) F__law_are_tests sc__law_are_tests 40
  have G169 : TabG κ 45 P w mg base T169 := (G168.mono (Nat.le_succ _)).fn KX Gn (c.fact 74) F__law_are_tests.kp b__law_are_tests R__law_are_tests (Nat.le_refl _)
  have b__law_wrong : Binds κ.K fd__law_wrong ps__law_wrong [] := F__law_wrong.bindsN fun _ _ _ _ _ _ us hl => match us, hl with | [_], _ => rfl
  have R__law_wrong : FnG P w κ.K mg base (CXb true P w) 46 (He.ga κ.K "_law_wrong") fd__law_wrong ps__law_wrong (spOf κ sm__law_wrong) := by
    unfold sm__law_wrong
    exact fn_sound G169 (fun _ => rfl) F__law_wrong sc__law_wrong 40
  have G170 : TabG κ 46 P w mg base T170 := (G169.mono (Nat.le_succ _)).fn KX Gn (c.fact 75) F__law_wrong.kp b__law_wrong R__law_wrong (Nat.le_refl _)
  have b__law_told : Binds κ.K fd__law_told ps__law_told [] := F__law_told.bindsN fun _ _ _ _ _ _ us hl => match us, hl with | [_], _ => rfl
  have R__law_told : FnG P w κ.K mg base (CXb true P w) 47 (He.ga κ.K "_law_told") fd__law_told ps__law_told (spOf κ sm__law_told) := by
    unfold sm__law_told
    exact fn_sound G170 (fun _ => rfl) F__law_told sc__law_told 40
  have G171 : TabG κ 47 P w mg base T171 := (G170.mono (Nat.le_succ _)).fn KX Gn (c.fact 76) F__law_told.kp b__law_told R__law_told (Nat.le_refl _)
  have b__law_odd : Binds κ.K fd__law_odd ps__law_odd [] := F__law_odd.bindsN fun _ _ _ _ _ _ us hl => match us, hl with | [_], _ => rfl
  have R__law_odd : FnG P w κ.K mg base (CXb true P w) 48 (He.ga κ.K "_law_odd") fd__law_odd ps__law_odd (spOf κ sm__law_odd) := by
    unfold sm__law_odd
    exact fn_sound G171 (fun _ => rfl) F__law_odd sc__law_odd 40
  have G172 : TabG κ 48 P w mg base T172 := (G171.mono (Nat.le_succ _)).fn KX Gn (c.fact 77) F__law_odd.kp b__law_odd R__law_odd (Nat.le_refl _)
  have b_law : Binds κ.K fd_law ps_law [] := F_law.bindsN fun _ _ _ _ _ _ us hl => match us, hl with | [_], _ => rfl
  have R_law : FnG P w κ.K mg base (CXb true P w) 49 (He.ga κ.K "law") fd_law ps_law (spOf κ sm_law) := by
    unfold sm_law
    exact fn_sound G172 (fun _ => rfl) F_law sc_law 40
  have G173 : TabG κ 49 P w mg base T173 := (G172.mono (Nat.le_succ _)).fn KX Gn (c.fact 78) F_law.kp b_law R_law (Nat.le_refl _)
  exact R_law.hot
def looseN : List Str := ("MarkError" : Str) :: ("InvalidRow" : Str) :: ("InvalidTool" : Str) :: ("InvalidText" : Str) :: ("SMALL" : Str) :: ("BARRED" : Str) :: ("PARTS" : Str) :: ("is_name" : Str) :: ("is_sequence" : Str) :: ("is_word" : Str) :: ("are_unlike" : Str) :: ("ANY" : Str) :: ("SIDES" : Str) :: ("is_old_mark" : Str) :: ("part_of" : Str) :: ("are_tests" : Str) :: ("names_among" : Str) :: ("Row" : Str) :: ("Run" : Str) :: ("Lead" : Str) :: ("Join" : Str) :: ("row_in" : Str) :: ("_law_deal" : Str) :: ("_law_draw" : Str) :: ("_law_pick" : Str) :: ("_law_mixed" : Str) :: ("_law_value" : Str) :: ("_law_marks" : Str) :: ("_law_tests" : Str) :: ("_law_row" : Str) :: ("_law_made" : Str) :: ("_law_is_name" : Str) :: ("_law_is_fit" : Str) :: ("_law_are_tests" : Str) :: ("_law_wrong" : Str) :: ("_law_told" : Str) :: ("_law_odd" : Str) :: []
abbrev RowX : PySem.W.OpenRow := PySem.W.OpenLaw.row PySem.Challenge.rw_ledmarks_k03_rows_refused
abbrev hk : PySem.W.Hook := hookX 5 fa fb fn ex cs
def ob (s : PySem.W.SharedT) : He.AlD := obsXG 5 fa fb fn ex cs (HandSHeadRun.getT s)
theorem ob_eq (s : PySem.W.SharedT) : ob s = hk.obs s.abs := obsXG_eq (HandSHeadRun.getT_eq s)
theorem run (w : World) : HandSHeadRun.RunEq RowX (PySem.W.view RowX.prog [41]) hk ob 20000 looseN w := by
  intro os
  kernel_rfl
end Lw
open PySem PySem.W PySem.Calls PyProof.Rows DL
theorem PySem.Challenge.cw_ledmarks_k03_rows_refused_holds : PySem.Challenge.rw_ledmarks_k03_rows_refused.Holds := by
  w_on; o_law
  refine HandSHeadRun.head_any (r := OpenLaw.row PySem.Challenge.rw_ledmarks_k03_rows_refused) (q := view (OpenLaw.row PySem.Challenge.rw_ledmarks_k03_rows_refused).prog [41]) (H := Lw.hk) (ob := Lw.ob) (M := 20000) (loose := Lw.looseN) (d := HandSHeadRun.topDef (OpenLaw.row PySem.Challenge.rw_ledmarks_k03_rows_refused).prog 41) (kwd := []) Lw.ob_eq
    (by kernel_rfl) (fun s => by kernel_rfl) Lw.run (by kernel_rfl) (by kernel_rfl) (by kernel_rfl) (by rfl) (by first | assumption | decide +kernel) (by decide +kernel) ⟨rfl, rfl, rfl, rfl, rfl, by decide +kernel⟩ ?hw ?hc
  case hw => w_witness2
  case hc =>
    refine walk_ofG (l := PySem.Challenge.rw_ledmarks_k03_rows_refused) (n := 63) (k := 49) (x := "_law_script") rfl (by decide) (by kernel_rfl) ⟨rfl, by decide, by decide⟩ ?F
    intro w mg fa h Y G hmg0
    obtain ⟨K, KX, c⟩ := Y
    have hmg : mg ("law" : PySem.Str) = some (.ref fa) := by
      have e : (HandSHeadRun.topDef (OpenLaw.row PySem.Challenge.rw_ledmarks_k03_rows_refused).prog 41).name = ("law" : PySem.Str) := by kernel_rfl
      rw [← e]
      exact hmg0
    have hfa : fa = He.ga K "law" := by
      have e := hmg.symm.trans (He.glo_ok KX G (c.fact 78 (f := .glo "law") rfl))
      cases e; rfl
    subst hfa
    let κ : KB := ⟨K, bxAll (PySem.Challenge.rw_ledmarks_k03_rows_refused).prog w, ndP (PySem.Challenge.rw_ledmarks_k03_rows_refused).prog w⟩
    obtain ⟨fd, hb, hF⟩ := Lw.sound (κ := κ) (P := (PySem.Challenge.rw_ledmarks_k03_rows_refused).prog) (w := w) KX G rfl (bxAll_0 (PySem.Challenge.rw_ledmarks_k03_rows_refused).prog w) (bxAll_odd (PySem.Challenge.rw_ledmarks_k03_rows_refused).prog w) (bxAll_even (PySem.Challenge.rw_ledmarks_k03_rows_refused).prog w) rfl c
    exact ⟨κ, fd, Lw.sm_law, KX, hb, fun ns _ => Lw.law_plain ns, fun base _ _ => hF base⟩

