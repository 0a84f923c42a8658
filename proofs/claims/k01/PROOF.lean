import PyProof.Rows.All
import Wide.All
import OpenK.AllK
import Wide.FinOn
import HandS.ForMost
import HandS.Exc
import HandS.TryMany
import HandS.CallSlots
import HandS.IsInst
import HandS.TupAny
import HandS.StrMore
import HandS.ReplaceList
import HandS.WordsExc
import HandS.TryOnly
import PyProof.ToksMono
import HandS.ExcInit
import KE.KExcSuper
import HandS.ExcOwn
import HandS.ExcField
import HandS.Wide
import HandS.WideMore
import HandS.ReplaceLit
import OpenK.ZGo
import KE.IntTextLaws
import PyProof.Rows.RegReprOcc
import PySem.Challenge.RW_keptreturns_k01_words_of_a_text

section
set_option Elab.async false
set_option linter.all false
set_option maxRecDepth 100000
set_option maxHeartbeats 2000000
/-! The data layer: pure values D over the hand layer's abstract heap. -/
namespace DL
open PySem L2

/-- a pure value: tuples are values, texts are lists of code points; fl: a list that nobody changes (the script) -/
inductive D where
  | non
  | bl (b : Bool)
  | int (i : Int)
  | str (x : List Nat)
  | ty (n : String)
  | ref (a : Addr)
  | tup (xs : List D)
  | fl (xs : List D)
  | exc (C a dd : Addr) (ns : List Str) (xs : List D)

/-- a list of the written part -/
def KLst (K : PySem.W.Frag) (a : Addr) (xs : List V) : Prop := ∃ (o : Obj) (its : Array Value) (n : Nat), K.lookup a = some o ∧ o.cls = .type "list" ∧ o.dict = none ∧ o.data = .seq its n ∧ its.size ≤ sizeLine ∧ Vals xs its.toList
mutual
def Rep (K : PySem.W.Frag) (H : Hp) : V → D → Prop
  | v, .non => v = .non
  | v, .bl b => v = .bl b
  | v, .int i => v = .int i
  | v, .str x => v = .str ⟨x.toArray⟩
  | v, .ty n => v = .ty n
  | v, .ref a => v = .ref a
  | v, .tup xs => ∃ a vs, v = .ref a ∧ SqT K H a vs ∧ Reps K H vs xs
  | v, .fl xs => ∃ a vs, v = .ref a ∧ ((∃ o, H a = some (.frz o (.lst vs))) ∨ KLst K a vs) ∧ Reps K H vs xs
  | v, .exc C a dd ns xs => v = .ref a ∧ ∃ fs : List (Str × V), H dd = some (.xd fs) ∧ fs.map (·.1) = ns ∧ Reps K H (fs.map (·.2)) xs
def Reps (K : PySem.W.Frag) (H : Hp) : List V → List D → Prop
  | vs, [] => vs = []
  | vs, d :: ds => ∃ v r, vs = v :: r ∧ Rep K H v d ∧ Reps K H r ds
end

/-! ### what stays -/
/-- tuples, and what nobody changes, stay -/
structure HExt (H H' : Hp) : Prop where
  tup : ∀ a xs, H a = some (.tup xs) → H' a = some (.tup xs)
  frz : ∀ a o u, H a = some (.frz o u) → H' a = some (.frz o u)
  xd : ∀ a fs, H a = some (.xd fs) → H' a = some (.xd fs)
theorem HExt.refl (H : Hp) : HExt H H := ⟨fun _ _ h => h, fun _ _ _ h => h, fun _ _ h => h⟩
theorem HExt.trans {H H1 H2 : Hp} (a : HExt H H1) (b : HExt H1 H2) : HExt H H2 := ⟨fun c xs h => b.tup c xs (a.tup c xs h), fun c o u h => b.frz c o u (a.frz c o u h), fun c o h => b.xd c o (a.xd c o h)⟩
theorem HExt.new {H : Hp} {p : Addr} {o : HO} (h : H p = none) : HExt H (upd H p o) :=
  ⟨fun a xs e => by rw [upd_ne (ne_of_none e h)]; exact e, fun a u x e => by rw [upd_ne (ne_of_none e h)]; exact e, fun a x e => by rw [upd_ne (ne_of_none e h)]; exact e⟩
theorem HExt.set {H : Hp} {p : Addr} {o u : HO} (h : H p = some u) (h1 : ∀ xs, u ≠ .tup xs) (h2 : ∀ ob x, u ≠ .frz ob x) (h3 : ∀ x, u ≠ .xd x) : HExt H (upd H p o) :=
  ⟨fun a xs e => by rw [upd_ne (ne_of e h (fun z => h1 xs z.symm))]; exact e, fun a ob x e => by rw [upd_ne (ne_of e h (fun z => h2 ob x z.symm))]; exact e, fun a x e => by rw [upd_ne (ne_of e h (fun z => h3 x z.symm))]; exact e⟩
theorem HExt.sqt {K : PySem.W.Frag} {H H' : Hp} (e : HExt H H') {a : Addr} {xs : List V} (h : SqT K H a xs) : SqT K H' a xs := by
  rcases h with (h | ⟨o, h⟩) | h
  · exact .inl (.inl (e.tup _ _ h))
  · exact .inl (.inr ⟨o, e.frz _ _ _ h⟩)
  · exact .inr h
theorem flL {K : PySem.W.Frag} {H : Hp} {a : Addr} {vs : List V} (h : (∃ o, H a = some (.frz o (.lst vs))) ∨ KLst K a vs) : SqL K H a vs := by
  rcases h with ⟨o, h⟩ | h
  · exact .inl (.inr ⟨o, h⟩)
  · exact .inr h
mutual
theorem Rep.ext {K : PySem.W.Frag} {H H' : Hp} (e : HExt H H') : ∀ (d : D) (v : V), Rep K H v d → Rep K H' v d
  | .non, _, h => h
  | .bl _, _, h => h
  | .int _, _, h => h
  | .str _, _, h => h
  | .ty _, _, h => h
  | .ref _, _, h => h
  | .tup xs, v, h => by
    rw [Rep] at h ⊢
    obtain ⟨a, vs, h1, h2, h3⟩ := h
    exact ⟨a, vs, h1, e.sqt h2, Reps.ext e xs vs h3⟩
  | .fl xs, v, h => by
    rw [Rep] at h ⊢
    obtain ⟨a, vs, h1, h2, h3⟩ := h
    exact ⟨a, vs, h1, h2.imp (fun ⟨o, z⟩ => ⟨o, e.frz _ _ _ z⟩) id, Reps.ext e xs vs h3⟩
  | .exc C a dd ns xs, v, h => by
    rw [Rep] at h ⊢
    obtain ⟨h0, fs, h1, h2, h3⟩ := h
    exact ⟨h0, fs, e.xd _ _ h1, h2, Reps.ext e xs _ h3⟩
theorem Reps.ext {K : PySem.W.Frag} {H H' : Hp} (e : HExt H H') : ∀ (ds : List D) (vs : List V), Reps K H vs ds → Reps K H' vs ds
  | [], _, h => h
  | d :: ds, vs, h => by
    rw [Reps] at h ⊢
    obtain ⟨v, r, h1, h2, h3⟩ := h
    exact ⟨v, r, h1, Rep.ext e d v h2, Reps.ext e ds r h3⟩
end
theorem reps_cons {K : PySem.W.Frag} {H : Hp} {v : V} {vs : List V} {d : D} {ds : List D} (h : Rep K H v d) (t : Reps K H vs ds) : Reps K H (v :: vs) (d :: ds) := by
  rw [Reps]; exact ⟨v, vs, rfl, h, t⟩
theorem reps_nil {K : PySem.W.Frag} {H : Hp} : Reps K H [] [] := by rw [Reps]
theorem reps_inv {K : PySem.W.Frag} {H : Hp} {vs : List V} {d : D} {ds : List D} (h : Reps K H vs (d :: ds)) : ∃ v r, vs = v :: r ∧ Rep K H v d ∧ Reps K H r ds := by
  rw [Reps] at h; exact h
theorem reps_inv0 {K : PySem.W.Frag} {H : Hp} {vs : List V} (h : Reps K H vs []) : vs = [] := by rw [Reps] at h; exact h
theorem Reps.length {K : PySem.W.Frag} {H : Hp} : ∀ {ds : List D} {vs : List V}, Reps K H vs ds → vs.length = ds.length
  | [], vs, h => by rw [reps_inv0 h]; rfl
  | d :: ds, vs, h => by
    obtain ⟨v, r, rfl, _, h3⟩ := reps_inv h
    rw [List.length_cons, List.length_cons, Reps.length h3]
theorem Reps.get {K : PySem.W.Frag} {H : Hp} : ∀ {ds : List D} {vs : List V} {i : Nat} {d : D}, Reps K H vs ds → ds[i]? = some d → ∃ v, vs[i]? = some v ∧ Rep K H v d
  | [], _, _, _, _, e => by simp at e
  | d :: ds, vs, i, d', h, e => by
    obtain ⟨v, r, rfl, h2, h3⟩ := reps_inv h
    cases i with
    | zero =>
      simp at e
      subst e
      exact ⟨v, by simp, h2⟩
    | succ i =>
      obtain ⟨v', q, r'⟩ := Reps.get (i := i) h3 (by simpa using e)
      exact ⟨v', by simpa using q, r'⟩
theorem Reps.getV {K : PySem.W.Frag} {H : Hp} {ds : List D} {vs : List V} {i : Nat} {v : V} (h : Reps K H vs ds) (e : vs[i]? = some v) : ∃ d, ds[i]? = some d ∧ Rep K H v d := by
  have hl := h.length
  have hi : i < vs.length := (List.getElem?_eq_some_iff.mp e).1
  obtain ⟨d, hd⟩ : ∃ d, ds[i]? = some d := ⟨ds[i]'(by omega), by rw [List.getElem?_eq_getElem]⟩
  obtain ⟨v', h1, h2⟩ := h.get hd
  rw [e] at h1
  cases h1
  exact ⟨d, hd, h2⟩
theorem Reps.append {K : PySem.W.Frag} {H : Hp} : ∀ {ds es : List D} {vs ws : List V}, Reps K H vs ds → Reps K H ws es → Reps K H (vs ++ ws) (ds ++ es)
  | [], _, vs, _, h, q => by rw [reps_inv0 h]; exact q
  | d :: ds, es, vs, ws, h, q => by
    obtain ⟨v, r, rfl, h2, h3⟩ := reps_inv h
    exact reps_cons h2 (Reps.append h3 q)
theorem Reps.set {K : PySem.W.Frag} {H : Hp} : ∀ {ds : List D} {vs : List V} {d : D} {v : V} (i : Nat), Reps K H vs ds → Rep K H v d → Reps K H (vs.set i v) (ds.set i d)
  | [], vs, _, _, _, h, _ => by rw [reps_inv0 h]; exact reps_nil
  | d :: ds, vs, d', v', i, h, q => by
    obtain ⟨v, r, rfl, h2, h3⟩ := reps_inv h
    cases i with
    | zero => exact reps_cons q h3
    | succ i => exact reps_cons h2 (Reps.set i h3 q)
theorem Reps.take {K : PySem.W.Frag} {H : Hp} : ∀ {ds : List D} {vs : List V} (n : Nat), Reps K H vs ds → Reps K H (vs.take n) (ds.take n)
  | [], vs, n, h => by rw [reps_inv0 h]; simp [reps_nil]
  | d :: ds, vs, n, h => by
    obtain ⟨v, r, rfl, h2, h3⟩ := reps_inv h
    cases n with
    | zero => exact reps_nil
    | succ n => exact reps_cons h2 (Reps.take n h3)
theorem Reps.drop {K : PySem.W.Frag} {H : Hp} : ∀ {ds : List D} {vs : List V} (n : Nat), Reps K H vs ds → Reps K H (vs.drop n) (ds.drop n)
  | [], vs, n, h => by rw [reps_inv0 h]; simp [reps_nil]
  | d :: ds, vs, n, h => by
    obtain ⟨v, r, rfl, h2, h3⟩ := reps_inv h
    cases n with
    | zero => exact reps_cons h2 h3
    | succ n => exact Reps.drop n h3
theorem Reps.eraseIdx {K : PySem.W.Frag} {H : Hp} : ∀ {ds : List D} {vs : List V} (n : Nat), Reps K H vs ds → Reps K H (vs.eraseIdx n) (ds.eraseIdx n)
  | [], vs, n, h => by rw [reps_inv0 h]; simp [reps_nil]
  | d :: ds, vs, n, h => by
    obtain ⟨v, r, rfl, h2, h3⟩ := reps_inv h
    cases n with
    | zero => exact h3
    | succ n => exact reps_cons h2 (Reps.eraseIdx n h3)
/-- ints, texts and so on have one value -/
theorem Reps.ints {K : PySem.W.Frag} {H : Hp} : ∀ {ns : List Int} {vs : List V}, Reps K H vs (ns.map D.int) → vs = ns.map V.int
  | [], vs, h => by rw [reps_inv0 h]; rfl
  | n :: ns, vs, h => by
    obtain ⟨v, r, rfl, h2, h3⟩ := reps_inv h
    rw [Rep] at h2
    rw [h2, Reps.ints h3]
    rfl
theorem Reps.of_ints {K : PySem.W.Frag} {H : Hp} : ∀ {ns : List Int}, Reps K H (ns.map V.int) (ns.map D.int)
  | [] => reps_nil
  | n :: ns => reps_cons (by rw [Rep]) Reps.of_ints
theorem Reps.bls {K : PySem.W.Frag} {H : Hp} : ∀ {ns : List Bool} {vs : List V}, Reps K H vs (ns.map D.bl) → vs = ns.map V.bl
  | [], vs, h => by rw [reps_inv0 h]; rfl
  | n :: ns, vs, h => by
    obtain ⟨v, r, rfl, h2, h3⟩ := reps_inv h
    rw [Rep] at h2
    rw [h2, Reps.bls h3]
    rfl
theorem Reps.strs {K : PySem.W.Frag} {H : Hp} : ∀ {ns : List (List Nat)} {vs : List V}, Reps K H vs (ns.map D.str) → vs = ns.map fun x => V.str ⟨x.toArray⟩
  | [], vs, h => by rw [reps_inv0 h]; rfl
  | n :: ns, vs, h => by
    obtain ⟨v, r, rfl, h2, h3⟩ := reps_inv h
    rw [Rep] at h2
    rw [h2, Reps.strs h3]
    rfl
theorem Reps.of_strs {K : PySem.W.Frag} {H : Hp} : ∀ {ns : List (List Nat)}, Reps K H (ns.map fun x => V.str ⟨x.toArray⟩) (ns.map D.str)
  | [] => reps_nil
  | n :: ns => reps_cons (by rw [Rep]) Reps.of_strs

/-! ### mutable objects -/
inductive MO where
  | lst (xs : List D)
  | dic (kvs : List (Key × D))
  | ins (C dx : Addr) (fs : List (Str × D))
abbrev Mp := Addr → Option MO
def updM (M : Mp) (a : Addr) (o : MO) : Mp := fun b => if b = a then some o else M b
theorem updM_same {M : Mp} {a : Addr} {o : MO} : updM M a o a = some o := if_pos rfl
theorem updM_ne {M : Mp} {a b : Addr} {o : MO} (h : b ≠ a) : updM M a o b = M b := if_neg h
theorem updM_updM {M : Mp} {a : Addr} {o u : MO} : updM (updM M a o) a u = updM M a u := by
  funext b; unfold updM; split <;> rfl
/-- named values: keys, fields -/
def RepN {κ : Type} (K : PySem.W.Frag) (H : Hp) (vs : List (κ × V)) (ds : List (κ × D)) : Prop := vs.map (·.1) = ds.map (·.1) ∧ Reps K H (vs.map (·.2)) (ds.map (·.2))
def RepO (K : PySem.W.Frag) (H : Hp) (a : Addr) : MO → Prop
  | .lst xs => ∃ vs, H a = some (.lst vs) ∧ Reps K H vs xs
  | .dic kvs => ∃ vs, H a = some (.dK vs) ∧ RepN K H vs kvs
  | .ins C dx fs => ∃ vs, H a = some (.ins C dx vs) ∧ RepN K H vs fs
def RepM (K : PySem.W.Frag) (H : Hp) (M : Mp) : Prop := ∀ a o, M a = some o → RepO K H a o
theorem RepO.some {K : PySem.W.Frag} {H : Hp} {a : Addr} {o : MO} (h : RepO K H a o) : ∃ u, H a = some u ∧ (∀ xs, u ≠ .tup xs) ∧ (∀ ob x, u ≠ .frz ob x) ∧ (∀ x, u ≠ .own x) ∧ (∀ x, u ≠ .xd x) := by
  cases o with
  | lst xs => obtain ⟨vs, e, _⟩ := h; exact ⟨_, e, (fun _ z => nomatch z), (fun _ _ z => nomatch z), (fun _ z => nomatch z), fun _ z => nomatch z⟩
  | dic kvs => obtain ⟨vs, e, _⟩ := h; exact ⟨_, e, (fun _ z => nomatch z), (fun _ _ z => nomatch z), (fun _ z => nomatch z), fun _ z => nomatch z⟩
  | ins C dx fs => obtain ⟨vs, e, _⟩ := h; exact ⟨_, e, (fun _ z => nomatch z), (fun _ _ z => nomatch z), (fun _ z => nomatch z), fun _ z => nomatch z⟩
theorem RepM.free {K : PySem.W.Frag} {H : Hp} {M : Mp} (m : RepM K H M) {p : Addr} (h : H p = none) : M p = none := by
  cases e : M p with
  | none => rfl
  | some o =>
    obtain ⟨u, q, _⟩ := (m p o e).some
    rw [h] at q
    cases q
theorem RepN.ext {κ : Type} {K : PySem.W.Frag} {H H' : Hp} {vs : List (κ × V)} {ds : List (κ × D)} (e : HExt H H') (h : RepN K H vs ds) : RepN K H' vs ds := ⟨h.1, Reps.ext e _ _ h.2⟩
theorem RepO.ext {K : PySem.W.Frag} {H H' : Hp} {a : Addr} {o : MO} (e : HExt H H') (q : H' a = H a) (h : RepO K H a o) : RepO K H' a o := by
  cases o with
  | lst xs => obtain ⟨vs, e1, r⟩ := h; exact ⟨vs, q.trans e1, Reps.ext e _ _ r⟩
  | dic kvs => obtain ⟨vs, e1, r⟩ := h; exact ⟨vs, q.trans e1, r.ext e⟩
  | ins C dx fs => obtain ⟨vs, e1, r⟩ := h; exact ⟨vs, q.trans e1, r.ext e⟩
/-- a new object that M doesn't know -/
theorem RepM.new {K : PySem.W.Frag} {H : Hp} {M : Mp} (m : RepM K H M) {p : Addr} {o : HO} (h : H p = none) : RepM K (upd H p o) M := fun a u e => by
  have n : a ≠ p := fun z => by rw [z, m.free h] at e; cases e
  exact (m a u e).ext (HExt.new h) (upd_ne n)
/-- a new object that M knows -/
theorem RepM.put {K : PySem.W.Frag} {H : Hp} {M : Mp} (m : RepM K H M) {p : Addr} {o : HO} {u : MO} (h : H p = none) (r : RepO K (upd H p o) p u) : RepM K (upd H p o) (updM M p u) := fun a w e => by
  by_cases n : a = p
  · subst n
    rw [updM_same] at e
    cases e
    exact r
  · rw [updM_ne n] at e
    exact m.new h a w e
/-- an object of M changes -/
theorem RepM.set {K : PySem.W.Frag} {H : Hp} {M : Mp} (m : RepM K H M) {p : Addr} {o : HO} {u w : MO} (h : M p = some w) (r : RepO K (upd H p o) p u) : RepM K (upd H p o) (updM M p u) := fun a x e => by
  obtain ⟨y, h1, h2, h3, _, h4⟩ := (m p w h).some
  by_cases n : a = p
  · subst n
    rw [updM_same] at e
    cases e
    exact r
  · rw [updM_ne n] at e
    exact (m a x e).ext (HExt.set h1 h2 h3 h4) (upd_ne n)
theorem RepM.extM {K : PySem.W.Frag} {H : Hp} {M : Mp} (m : RepM K H M) {p : Addr} {o : HO} {w : MO} (h : M p = some w) : HExt H (upd H p o) := by
  obtain ⟨y, h1, h2, h3, _, h4⟩ := (m p w h).some
  exact HExt.set h1 h2 h3 h4
end DL
end

section
set_option Elab.async false
set_option linter.all false
set_option maxRecDepth 100000
set_option maxHeartbeats 2000000
/-! The hand layer's judgements where so many tokens have been given out already: T. -/
namespace DL
open PySem PySem.Spec PyProof.Rows L2

/-- what is known behind: the tokens too -/
theorem thT {α : Type} {t : Sem α} {Q Q' : α → Shared → Prop} {M : Model} {A : Around} {E : Value → Shared → Prop} {s : Shared} {T : Nat} (hT : T ≤ s.toks) (h : wpAny M A t Q E s) (hQ : ∀ a s, T ≤ s.toks → Q a s → Q' a s) : wpAny M A t Q' E s :=
  wpAny_mono (wpAny_toks_of hT h) (fun a s x => hQ a s x.1 x.2) fun _ _ x => x.2
structure TPE (X : Cx) (T : Nat) (e : Expr) (t : TE) : Prop where
  run : ∀ (pins : List (Addr × Obj)) (s : Shared) (σ : L2.St) (H : Hp) (Q : VK), Inv X pins σ H s → T ≤ s.toks → t σ H Q → wpAny (model X.prog X.w) X.A (eval e X.env) (EP X pins σ Q) X.xe s
structure TPT (X : Cx) (T : Nat) (e : Expr) (t : TT) : Prop where
  run : ∀ (pins : List (Addr × Obj)) (s : Shared) (σ : L2.St) (H : Hp) (Q : Bool → Hp → Prop), Inv X pins σ H s → T ≤ s.toks → t σ H Q → wpAny (model X.prog X.w) X.A (isTrue e X.env (eval e X.env)) (TP X pins σ Q) X.xe s
structure TPW (X : Cx) (T : Nat) (e : Expr) (t : TT) : Prop where
  run : ∀ (whole : Sem Value) (pins : List (Addr × Obj)) (s : Shared) (σ : L2.St) (H : Hp) (Q : Bool → Hp → Prop), Inv X pins σ H s → T ≤ s.toks → t σ H Q → wpAny (model X.prog X.w) X.A (isTrue e X.env whole) (TP X pins σ Q) X.xe s
structure TPA (X : Cx) (T : Nat) (es : List Expr) (t : TA) : Prop where
  run : ∀ (pos : Pos) (pins : List (Addr × Obj)) (s : Shared) (σ : L2.St) (H : Hp) (Q : List V → Hp → Prop), Inv X pins σ H s → T ≤ s.toks → t σ H Q → wpAny (model X.prog X.w) X.A (spliced (backTo pos (starEach es X.env))) (AP X pins σ Q) X.xe s
structure TPS (X : Cx) (T : Nat) (st : Stmt) (t : TS) : Prop where
  run : ∀ (pins : List (Addr × Obj)) (s : Shared) (σ : L2.St) (H : Hp) (D : Ends), Inv X pins σ H s → T ≤ s.toks → t D σ H → wpAny (model X.prog X.w) X.A (exec st X.env) (SP X pins D) X.xe s
structure TPSs (X : Cx) (T : Nat) (st : List Stmt) (t : TS) : Prop where
  run : ∀ (pins : List (Addr × Obj)) (s : Shared) (σ : L2.St) (H : Hp) (D : Ends), Inv X pins σ H s → T ≤ s.toks → t D σ H → wpAny (model X.prog X.w) X.A (execs st X.env) (SP X pins D) X.xe s
structure TPO (X : Cx) (T : Nat) (e : Option Expr) (t : TO) : Prop where
  run : ∀ (pins : List (Addr × Obj)) (s : Shared) (σ : L2.St) (H : Hp) (Q : Option Int → Hp → Prop), Inv X pins σ H s → T ≤ s.toks → t σ H Q → wpAny (model X.prog X.w) X.A (evalPart e X.env) (fun u s' => ∃ o H', Inv X pins σ H' s' ∧ PySem.IsPart u o ∧ Q o H') X.xe s
structure TPI (X : Cx) (T : Nat) (tg iter : Expr) (wi : TI) : Prop where
  run : ∀ (pins : List (Addr × Obj)) (s : Shared) (σ : L2.St) (H : Hp) (R : It → Hp → Prop), Inv X pins σ H s → T ≤ s.toks → wi σ H R →
    wpAny (model X.prog X.w) X.A (eval iter X.env) (fun v s1 => wpAny (model X.prog X.w) X.A (pyIter v) (PIE X pins σ tg R) X.xe s1) X.xe s
structure TPG (X : Cx) (T : Nat) (tg : Expr) (t : TG) : Prop where
  run : ∀ (pins : List (Addr × Obj)) (s : Shared) (σ : L2.St) (H : Hp) (v : V) (u : Value) (Q : L2.St → Hp → Prop), Inv X pins σ H s → T ≤ s.toks → RelV v u → t v σ H Q →
    wpAny (model X.prog X.w) X.A (assign tg X.env u) (fun _ s' => ∃ σ' H', Inv X pins σ' H' s' ∧ Q σ' H') X.xe s
structure TPGs (X : Cx) (T : Nat) (ts : List Expr) (t : TGs) : Prop where
  run : ∀ (pins : List (Addr × Obj)) (s : Shared) (σ : L2.St) (H : Hp) (vs : List V) (us : List Value) (Q : L2.St → Hp → Prop), Inv X pins σ H s → T ≤ s.toks → Vals vs us → t vs σ H Q →
    wpAny (model X.prog X.w) X.A (assignInOrder ((assignEach ts X.env).map (·.2)) us) (fun _ s' => ∃ σ' H', Inv X pins σ' H' s' ∧ Q σ' H') X.xe s
section
variable {X : Cx} {T : Nat} {pos : Pos}
theorem TPG.of {tg : Expr} {t : TG} (h : PG X tg t) : TPG X T tg t := ⟨fun pins s σ H v u Q I _ r q => h.run pins s σ H v u Q I r q⟩
theorem TPGs.of {tg : List Expr} {t : TGs} (h : PGs X tg t) : TPGs X T tg t := ⟨fun pins s σ H v u Q I _ r q => h.run pins s σ H v u Q I r q⟩
theorem TPG.impD {tg : Expr} {t t' : TG} (h : TPG X T tg t) (i : ∀ v σ H Q, t' v σ H Q → t v σ H Q) : TPG X T tg t' := ⟨fun pins s σ H v u Q I k r q => h.run pins s σ H v u Q I k r (i _ _ _ _ q)⟩
theorem TPGs.impD {tg : List Expr} {t t' : TGs} (h : TPGs X T tg t) (i : ∀ v σ H Q, t' v σ H Q → t v σ H Q) : TPGs X T tg t' := ⟨fun pins s σ H v u Q I k r q => h.run pins s σ H v u Q I k r (i _ _ _ _ q)⟩
theorem tpgs_cons {e : Expr} {es : List Expr} {t : TG} {u : TGs} (h1 : TPG X T e t) (h2 : TPGs X T es u) (hs : (assignEach (e :: es) X.env).map (·.2) = assign e X.env :: (assignEach es X.env).map (·.2)) : TPGs X T (e :: es) (gCons t u) := ⟨fun pins s σ H vs us Q I k r h => by
  obtain ⟨v, vr, rfl, h⟩ := h
  cases r with
  | cons r rr =>
    rw [hs]
    exact assignInOrder_cons (thT k (h1.run pins s σ H _ _ _ I k r h) fun _ s1 k1 ⟨σ1, H1, I1, q1⟩ => h2.run pins s1 σ1 H1 _ _ Q I1 k1 rr q1)⟩
theorem tpg_tup {es : List Expr} {k : Nat} {t : TGs} {n : Nat} (hc : X.calm = true) (h : TPGs X T es t) (hn : (assignEach es X.env).length = n) (hst : (assignEach es X.env).findIdx? (·.1) = none) : TPG X T (.Tuple es k pos) (gTup X.K n t) := ⟨fun pins s σ H v u Q I kT r hw => by
  obtain ⟨a, xs, rfl, hq, hl, hw⟩ := hw
  cases r
  obtain ⟨its, rv, ht, hz⟩ := I.tuple hq
  refine assign_Tuple_tuple (I.ok.hd hc) ht (by simp [hn, ← hl, rv.length]) hst fun h' hx => ?_
  exact h.run pins _ σ H xs _ Q (I.kept (h' := h') (t' := s.toks) fun b o e => hx b o (Nat.ne_of_lt (Heap.lt_size e)) e) kT (by simpa using rv) hw⟩
theorem tpg_sub {o i : Expr} {to ti : TE} {t : TSet} (ho : TPE X T o to) (hi : TPE X T i ti) (hs : PSet X t)
    (ha : ∀ v, assign (.Subscript o i pos) X.env v = (do
      let ov ← holding [v] (eval o X.env)
      let iv ← holding [v, ov] (eval i X.env)
      standAt pos
      holding [v, ov, iv] (setItem ov iv v)
      release [v, ov, iv] [])) : TPG X T (.Subscript o i pos) (gSub to ti t) := ⟨fun pins s σ H v u Q I k r h => by
  rw [ha]
  refine wpAny_bind (wpAny_holding (thT k (ho.run pins s σ H _ I k h) fun ov s1 k1 ⟨x, H1, I1, r1, q1⟩ => ?_))
  refine wpAny_bind (wpAny_holding (thn (hi.run pins s1 σ H1 _ I1 k1 q1) fun iv s2 ⟨y, H2, I2, r2, q2⟩ => ?_))
  refine wpAny_bind (wpAny_standAt (wpAny_bind (wpAny_holding (thn (hs pins s2 σ H2 x y v ov iv u _ I2 r1 r2 r q2) fun _ s3 ⟨H3, I3, q3⟩ => ?_))))
  exact wpAny_release ⟨σ, H3, I3, q3⟩⟩
end
section
variable {X : Cx} {T : Nat} {a b c e : Expr} {rest es : List Expr} {ta tb tc te : TE} {tt uu : TT} {tl : TA} {pos : Pos}
theorem TPE.of (h : PE X e te) : TPE X T e te := ⟨fun pins s σ H Q I _ q => h.run pins s σ H Q I q⟩
theorem TPT.of (h : PT X e tt) : TPT X T e tt := ⟨fun pins s σ H Q I _ q => h.run pins s σ H Q I q⟩
theorem TPA.of (h : PA X es tl) : TPA X T es tl := ⟨fun pos pins s σ H Q I _ q => h.run pos pins s σ H Q I q⟩
theorem TPS.of {st : Stmt} {t : TS} (h : PS X st t) : TPS X T st t := ⟨fun pins s σ H Q I _ q => h.run pins s σ H Q I q⟩
theorem TPSs.of {st : List Stmt} {t : TS} (h : PSs X st t) : TPSs X T st t := ⟨fun pins s σ H Q I _ q => h.run pins s σ H Q I q⟩
theorem TPI.of {tg iter : Expr} {wi : TI} (h : PI X tg iter wi) : TPI X T tg iter wi := ⟨fun pins s σ H Q I _ q => h.run pins s σ H Q I q⟩
theorem TPE.impD {t' : TE} (h : TPE X T e te) (i : ∀ σ H Q, t' σ H Q → te σ H Q) : TPE X T e t' := ⟨fun pins s σ H Q I k q => h.run pins s σ H Q I k (i _ _ _ q)⟩
theorem TPT.impD {t' : TT} (h : TPT X T e tt) (i : ∀ σ H Q, t' σ H Q → tt σ H Q) : TPT X T e t' := ⟨fun pins s σ H Q I k q => h.run pins s σ H Q I k (i _ _ _ q)⟩
theorem TPW.impD {t' : TT} (h : TPW X T e tt) (i : ∀ σ H Q, t' σ H Q → tt σ H Q) : TPW X T e t' := ⟨fun wh pins s σ H Q I k q => h.run wh pins s σ H Q I k (i _ _ _ q)⟩
theorem TPA.impD {t' : TA} (h : TPA X T es tl) (i : ∀ σ H Q, t' σ H Q → tl σ H Q) : TPA X T es t' := ⟨fun pos pins s σ H Q I k q => h.run pos pins s σ H Q I k (i _ _ _ q)⟩
theorem TPO.impD {e : Option Expr} {t t' : TO} (h : TPO X T e t) (i : ∀ σ H Q, t' σ H Q → t σ H Q) : TPO X T e t' := ⟨fun pins s σ H Q I k q => h.run pins s σ H Q I k (i _ _ _ q)⟩
theorem TPS.impD {e : Stmt} {t t' : TS} (h : TPS X T e t) (i : ∀ D σ H, t' D σ H → t D σ H) : TPS X T e t' := ⟨fun pins s σ H Q I k q => h.run pins s σ H Q I k (i _ _ _ q)⟩
theorem TPSs.impD {e : List Stmt} {t t' : TS} (h : TPSs X T e t) (i : ∀ D σ H, t' D σ H → t D σ H) : TPSs X T e t' := ⟨fun pins s σ H Q I k q => h.run pins s σ H Q I k (i _ _ _ q)⟩
theorem TPI.impD {tg iter : Expr} {t t' : TI} (h : TPI X T tg iter t) (i : ∀ σ H R, t' σ H R → t σ H R) : TPI X T tg iter t' := ⟨fun pins s σ H Q I k q => h.run pins s σ H Q I k (i _ _ _ q)⟩
/-- two in a row -/
theorem twoT {pins : List (Addr × Obj)} {s : Shared} {σ : L2.St} {H : Hp} {R : V → V → Hp → Prop} {α : Type} {Q : α → Shared → Prop} {f : Value → Value → Sem α} (ha : TPE X T a ta) (hb : TPE X T b tb) (I : Inv X pins σ H s) (k : T ≤ s.toks)
    (h : ta σ H fun x H1 => tb σ H1 fun y H2 => R x y H2) (hf : ∀ v u s2 x y H2, T ≤ s2.toks → Inv X pins σ H2 s2 → RelV x v → RelV y u → R x y H2 → wpAny (model X.prog X.w) X.A (f v u) Q X.xe s2) :
    wpAny (model X.prog X.w) X.A (eval a X.env) (fun v s1 => wpAny (model X.prog X.w) X.A (eval b X.env) (fun u s2 => wpAny (model X.prog X.w) X.A (f v u) Q X.xe s2) X.xe s1) X.xe s :=
  thT k (ha.run pins s σ H _ I k h) fun v s1 k1 ⟨x, H1, I1, r1, q1⟩ => thT k1 (hb.run pins s1 σ H1 _ I1 k1 q1) fun u s2 k2 ⟨y, H2, I2, r2, q2⟩ => hf v u s2 x y H2 k2 I2 r1 r2 q2
theorem tpe_op {op : Operator} {r : R2} (ho : OpR X (binaryOp op) r) (ha : TPE X T a ta) (hb : TPE X T b tb) : TPE X T (.BinOp a op b pos) (tOp r ta tb) := ⟨fun pins s σ H Q I k h =>
  wpAny_BinOp (twoT ha hb I k h fun v u s2 x y H2 _ I2 rx ry q => ho pins s2 σ H2 x y v u Q I2 rx ry q)⟩
theorem tpe_un {op : UnaryOp} {r : V → Hp → VK → Prop} (ho : UnR X (unaryOp op) r) (ha : TPE X T a ta) : TPE X T (.UnaryOp op a pos) (tUn r ta) := ⟨fun pins s σ H Q I k h =>
  UnaryOp_ (thn (ha.run pins s σ H _ I k h) fun v s1 ⟨x, H1, I1, r1, q1⟩ => ho pins s1 σ H1 x v Q I1 r1 q1)⟩
theorem tpe_cmpR {op : CmpOp} {r : R2} (ho : OpR X (compareOp op) r) (ha : TPE X T a ta) (hb : TPE X T b tb) (hm : behindInMarks op b = false) : TPE X T (.Compare a [op] [b] pos) (tOp r ta tb) := ⟨fun pins s σ H Q I k h =>
  wpAny_Compare1 (twoT ha hb I k h fun v u s2 x y H2 _ I2 rx ry q => ho pins s2 σ H2 x y v u Q I2 rx ry q) hm⟩
theorem tpt_cmpR {op : CmpOp} {r : R2} (ho : OpR X (compareOp op) r) (ha : TPE X T a ta) (hb : TPE X T b tb) (hm : behindInMarks op b = false) : TPT X T (.Compare a [op] [b] pos) (tTest (tOp r ta tb)) := ⟨fun pins s σ H Q I k h => by
  refine wpAny_isTrue_Compare1 (twoT ha hb I k h fun v u s2 x y H2 _ I2 rx ry q => ?_) hm
  refine thn (ho pins s2 σ H2 x y v u _ I2 rx ry q) fun w s3 ⟨z, H3, I3, r3, d, ez, q3⟩ => ?_
  cases ez
  cases r3
  exact wpAny_truthy_bool ⟨H3, I3, q3⟩⟩
theorem tpe_chain {op op' : CmpOp} {r r' : R2} (ho : OpR X (compareOp op) r) (ho' : OpR X (compareOp op') r') (ha : TPE X T a ta) (hb : TPE X T b tb) (hc : TPE X T c tc) (hm : lastMarks [op, op'] [b, c] = false) :
    TPE X T (.Compare a [op, op'] [b, c] pos) (tChain r r' ta tb tc) := ⟨fun pins s σ H Q I k h => by
  refine Compare_chain (thT k (ha.run pins s σ H _ I k h) fun v s1 k1 ⟨x, H1, I1, r1, q1⟩ => chain_link (thT k1 (hb.run pins s1 σ H1 _ I1 k1 q1) fun u s2 k2 ⟨y, H2, I2, r2, q2⟩ => thT k2 (ho pins s2 σ H2 x y v u _ I2 r1 r2 q2) fun w s3 k3 z => ?_)) hm
  obtain ⟨zv, H3, I3, r3, d, ez, q3⟩ := z
  cases ez
  cases r3
  refine wpAny_truthy_bool ?_
  cases d with
  | false => exact ite_ff ⟨.bl false, H3, I3, rfl, q3⟩
  | true => exact ite_tt (chain_last (thn (hc.run pins s3 σ H3 _ I3 k3 q3) fun w4 s4 ⟨z4, H4, I4, r4, q4⟩ => ho' pins s4 σ H4 y z4 u w4 Q I4 r2 r4 q4))⟩
theorem tpt_chain {op op' : CmpOp} {r r' : R2} (ho : OpR X (compareOp op) r) (ho' : OpR X (compareOp op') r') (ha : TPE X T a ta) (hb : TPE X T b tb) (hc : TPE X T c tc) (hm : lastMarks [op, op'] [b, c] = false) :
    TPT X T (.Compare a [op, op'] [b, c] pos) (tTest (tChain r r' ta tb tc)) := ⟨fun pins s σ H Q I k h => by
  refine isTrue_chain (thT k (ha.run pins s σ H _ I k h) fun v s1 k1 ⟨x, H1, I1, r1, q1⟩ => test_link (thT k1 (hb.run pins s1 σ H1 _ I1 k1 q1) fun u s2 k2 ⟨y, H2, I2, r2, q2⟩ => thT k2 (ho pins s2 σ H2 x y v u _ I2 r1 r2 q2) fun w s3 k3 z => ?_)) hm
  obtain ⟨zv, H3, I3, r3, d, ez, q3⟩ := z
  cases ez
  cases r3
  refine wpAny_truthy_bool ?_
  cases d with
  | false =>
    obtain ⟨d', ed, qd⟩ := q3
    cases ed
    exact ite_ff ⟨H3, I3, qd⟩
  | true =>
    refine ite_tt (test_last (thn (hc.run pins s3 σ H3 _ I3 k3 q3) fun w4 s4 ⟨z4, H4, I4, r4, q4⟩ => thn (ho' pins s4 σ H4 y z4 u w4 _ I4 r2 r4 q4) fun w5 s5 z5 => ?_))
    obtain ⟨zv5, H5, I5, r5, d5, e5, q5⟩ := z5
    cases e5
    cases r5
    exact wpAny_truthy_bool ⟨H5, I5, q5⟩⟩
theorem tpt_not (ha : TPT X T a tt) : TPT X T (.UnaryOp .Not a pos) (tNot tt) := ⟨fun pins s σ H Q I k h => isTrue_not (ha.run pins s σ H (fun d H1 => Q (!d) H1) I k h)⟩
theorem tpe_not (ha : TPE X T a ta) : TPE X T (.UnaryOp .Not a pos) (tNotV ta) := ⟨fun pins s σ H Q I k h =>
  UnaryOp_ (thn (ha.run pins s σ H _ I k h) fun v s1 ⟨x, H1, I1, r1, d, ed, q1⟩ => by
    cases ed
    cases r1
    exact PyProof.Rows.not_of (wpAny_truthy_bool ⟨.bl (!d), H1, I1, rfl, q1⟩))⟩
theorem tpt_val (h : TPE X T e te) (he : ∀ whole, isTrue e X.env whole = (do let v ← whole; standAt e.pos; holding [v] (truthy v))) : TPT X T e (tB te) := ⟨fun pins s σ H Q I k hw =>
  isTrue_plain (thn (h.run pins s σ H _ I k hw) fun v s1 ⟨x, H1, I1, r1, d, ed, q1⟩ => by
    cases ed
    cases r1
    exact wpAny_truthy_bool ⟨H1, I1, q1⟩) (he _)⟩
theorem TPW.pt (h : TPW X T e tt) : TPT X T e tt := ⟨h.run _⟩
theorem tpw_and1 (ha : TPT X T a tt) : TPW X T (.BoolOp .And [a] pos) tt := ⟨fun wh pins s σ H Q I k h => isTrue_and (thn (ha.run pins s σ H Q I k h) fun d s1 z => by
  cases d with
  | true => exact isTrue_and_nil z
  | false => exact z)⟩
theorem tpw_or1 (ha : TPT X T a tt) : TPW X T (.BoolOp .Or [a] pos) tt := ⟨fun wh pins s σ H Q I k h => isTrue_or (thn (ha.run pins s σ H Q I k h) fun d s1 z => by
  cases d with
  | true => exact z
  | false => exact isTrue_or_nil z)⟩
theorem tpw_and (ha : TPT X T a tt) (hb : TPW X T (.BoolOp .And (b :: rest) pos) uu) : TPW X T (.BoolOp .And (a :: b :: rest) pos) (tAnd tt uu) := ⟨fun wh pins s σ H Q I k h => isTrue_and (thT k (ha.run pins s σ H _ I k h) fun d s1 k1 ⟨H1, I1, q1⟩ => by
  cases d with
  | true => exact hb.run wh pins s1 σ H1 Q I1 k1 q1
  | false => exact ⟨H1, I1, q1⟩)⟩
theorem tpw_or (ha : TPT X T a tt) (hb : TPW X T (.BoolOp .Or (b :: rest) pos) uu) : TPW X T (.BoolOp .Or (a :: b :: rest) pos) (tOr tt uu) := ⟨fun wh pins s σ H Q I k h => isTrue_or (thT k (ha.run pins s σ H _ I k h) fun d s1 k1 ⟨H1, I1, q1⟩ => by
  cases d with
  | true => exact ⟨H1, I1, q1⟩
  | false => exact hb.run wh pins s1 σ H1 Q I1 k1 q1)⟩
theorem tpe_one {op} (h : TPE X T a ta) : TPE X T (.BoolOp op [a] pos) ta := ⟨fun pins s σ H Q I k hw => BoolOp_one (h.run pins s σ H Q I k hw)⟩
theorem tpe_and (ha : TPE X T a ta) (hb : TPE X T (.BoolOp .And (b :: rest) pos) tb) : TPE X T (.BoolOp .And (a :: b :: rest) pos) (tAndV ta tb) := ⟨fun pins s σ H Q I k h =>
  BoolOp_and (thT k (ha.run pins s σ H _ I k h) fun v s1 k1 ⟨x, H1, I1, r1, d, ed, q1⟩ => by
    cases ed
    cases r1
    refine wpAny_truthy_bool ?_
    cases d with
    | true => exact hb.run pins s1 σ H1 Q I1 k1 q1
    | false => exact ⟨.bl false, H1, I1, rfl, q1⟩)⟩
theorem tpe_or (ha : TPE X T a ta) (hb : TPE X T (.BoolOp .Or (b :: rest) pos) tb) : TPE X T (.BoolOp .Or (a :: b :: rest) pos) (tOrV ta tb) := ⟨fun pins s σ H Q I k h =>
  BoolOp_or (thT k (ha.run pins s σ H _ I k h) fun v s1 k1 ⟨x, H1, I1, r1, d, ed, q1⟩ => by
    cases ed
    cases r1
    refine wpAny_truthy_bool ?_
    cases d with
    | true => exact ⟨.bl true, H1, I1, rfl, q1⟩
    | false => exact hb.run pins s1 σ H1 Q I1 k1 q1)⟩
theorem tpe_ifExp (hc : TPT X T c tt) (ha : TPE X T a ta) (hb : TPE X T b tb) : TPE X T (.IfExp c a b pos) (tIf tt ta tb) := ⟨fun pins s σ H Q I k h =>
  wpAny_IfExp (thT k (hc.run pins s σ H _ I k h) fun d s1 k1 ⟨H1, I1, q1⟩ => by
    cases d with
    | true => exact ha.run pins s1 σ H1 Q I1 k1 q1
    | false => exact hb.run pins s1 σ H1 Q I1 k1 q1)⟩
theorem tpa_nil : TPA X T [] tNil := .of pa_nil
theorem tpa_cons (ha : TPE X T e te) (hr : TPA X T es tl) (hs : starEach (e :: es) X.env = (false, eval e X.env) :: starEach es X.env) : TPA X T (e :: es) (tCons te tl) := ⟨fun pos pins s σ H Q I k h => by
  rw [hs]
  refine Calls.spliced_cons (rest := backTo pos (starEach es X.env)) (thT k (ha.run pins s σ H _ I k h) fun u s1 k1 z => ?_)
  obtain ⟨x, H1, I1, r1, q1⟩ := z
  exact thn (hr.run pos pins s1 σ H1 _ I1 k1 q1) fun us s2 ⟨xs, H2, I2, r2, q2⟩ => ⟨_, H2, I2, .cons r1 r2, q2⟩⟩
/-- a new object of written items -/
theorem new_of {pins : List (Addr × Obj)} {σ : L2.St} {H : Hp} {s : Shared} {o : HO} {ob : Obj} {Q : VK} (I : Inv X pins σ H s) (hb : ob.dict = none ∧ True) (ok : ObjOk X.prog X.w (upd H s.heap.objs.size o) (s.heap.push ob) s.heap.objs.size o) (q : ∀ p, H p = none → Q (.ref p) (upd H p o)) :
    EP X pins σ Q (.ref s.heap.objs.size) { s with heap := s.heap.push ob } :=
  ⟨.ref s.heap.objs.size, _, I.laid (t' := s.toks) (fun b u e => Heap.get?_push_of_some _ e) (Nat.le_refl _) ok, rfl, q _ (I.hok.fresh (Nat.le_refl _))⟩
theorem tpe_tup {x1} (h : TPA X T es tl) : TPE X T (.Tuple es x1 pos) (tTup tl) := ⟨fun pins s σ H Q I k hq =>
  wpAny_Tuple_spliced (thn (h.run pos pins s σ H _ I k hq) fun us s1 ⟨xs, H1, I1, r, z, q⟩ => ⟨by rw [← r.length]; exact z, new_of I1 ⟨rfl, trivial⟩ (o := .tup xs) ⟨z, us, r, ⟨_, Heap.get?_push_size _ rfl, rfl, _, rfl⟩⟩ q⟩)⟩
theorem tpe_lst (h : TPA X T es tl) : TPE X T (.List es pos) (tLst tl) := ⟨fun pins s σ H Q I k hq =>
  wpAny_List_spliced (thn (h.run pos pins s σ H _ I k hq) fun us s1 ⟨xs, H1, I1, r, z, q⟩ => ⟨by rw [← r.length]; exact z, new_of I1 ⟨rfl, trivial⟩ (o := .lst xs) ⟨z, us, 0, r, Heap.get?_push_size _ rfl⟩ q⟩)⟩
theorem tpe_ix {r : R2} (hr : IxR X r) (ha : TPE X T a ta) (hb : TPE X T b tb) (hs : PlainIx b) : TPE X T (.Subscript a b pos) (tOp r ta tb) := ⟨fun pins s σ H Q I k h =>
  Subscript_ (twoT ha hb I k h fun v u s2 x y H2 _ I2 rx ry q => hr a b pins s2 σ H2 x y v u Q I2 rx ry q (hs _ _))⟩
theorem tpo_none : TPO X T none tNoPart := ⟨fun pins s σ H Q I _ h => po_none.run pins s σ H Q I h⟩
theorem tpo_some (h : TPE X T e te) : TPO X T (some e) (tPart te) := ⟨fun pins s σ H Q I k hw => by
  rw [evalPart_some]
  refine thn (h.run pins s σ H _ I k hw) fun u s1 z => ?_
  obtain ⟨x, H1, I1, ⟨r1, i, ex, q⟩⟩ := z
  cases ex
  obtain ⟨tk, rfl⟩ := r1
  exact ⟨some i, H1, I1, .int i tk, q⟩⟩
theorem tpe_slice {r : V → Option Int → Option Int → Hp → VK → Prop} {lo hi : Option Expr} {tlo thi : TO} {p2 : Pos} (hr : SlR X r) (he : TPE X T e te) (hl : TPO X T lo tlo) (hu : TPO X T hi thi) : TPE X T (.Subscript e (.Slice lo hi none p2) pos) (tSl r te tlo thi) := ⟨fun pins s σ H Q I k h => by
  refine Subscript_ (thT k (he.run pins s σ H _ I k h) fun v s1 k1 z1 => ?_)
  obtain ⟨x, H1, I1, r1, q1⟩ := z1
  refine wpAny_Slice (thT k1 (hl.run pins s1 σ H1 _ I1 k1 q1) fun vl s2 k2 z2 => ?_)
  obtain ⟨l, H2, I2, pl, q2⟩ := z2
  refine thn (hu.run pins s2 σ H2 _ I2 k2 q2) fun vu s3 z3 => ?_
  obtain ⟨u, H3, I3, pu, q3⟩ := z3
  rw [evalPart_none]
  refine wpAny_pure ?_
  have J := I3.kept (h' := s3.heap.push { cls := .type "slice", data := .fields #[vl, vu, .none] }) (t' := s3.toks) fun b ob q => Heap.get?_push_of_some _ q
  obtain ⟨ty, id, g1, g2, g3⟩ := hr pins _ σ H3 x v vl vu l u s3.heap.objs.size Q J r1 (Heap.IsSliceOf.new ..) pl pu q3
  exact PyProof.Rows.tail_any g2 g1 g3 (by with_unfolding_all rfl)⟩

/-! ### statements -/
section
variable {st₀ : Stmt} {sts : List Stmt} {t u : TS}
theorem tpss_nil : TPSs X T [] tNext := .of pss_nil
theorem tpss_cons (h1 : TPS X T st₀ t) (h2 : TPSs X T sts u) : TPSs X T (st₀ :: sts) (tSeq t u) := ⟨fun pins s σ H D I k h =>
  wpAny_execs_cons (thT k (h1.run pins s σ H { D with nx := u D } I k h) fun f s1 k1 q => by
    cases f with
    | next => exact h2.run pins s1 _ _ D q.choose_spec.choose_spec.1 k1 q.choose_spec.choose_spec.2
    | ret v => exact q
    | brk => exact q
    | cont => exact q)⟩
theorem tpss_one (h1 : TPS X T st₀ t) : TPSs X T [st₀] t := ⟨fun pins s σ H D I k h =>
  wpAny_execs_cons (thn (h1.run pins s σ H D I k h) fun f s1 q => by
    cases f with
    | next => exact wpAny_execs_nil q
    | ret v => exact q
    | brk => exact q
    | cont => exact q)⟩
theorem tps_expr (he : TPE X T e te) (hs : swapsWith e none pos.line X.env = pure false) : TPS X T (.Expr e pos) (tDrop te) := ⟨fun pins s σ H D I k h =>
  wpAny_Expr_any (thn (he.run pins s σ H _ I k h) fun _ _ ⟨_, H1, I1, _, q1⟩ => ⟨σ, H1, I1, q1⟩) I.quiet hs⟩
theorem tps_ret (he : TPE X T e te) : TPS X T (.Return (some e) pos) (tRet te) := ⟨fun pins s σ H D I k h =>
  wpAny_Return_some (thn (he.run pins s σ H _ I k h) fun _ _ ⟨x, H1, I1, r1, q1⟩ => ⟨x, σ, H1, I1, r1, q1⟩)⟩
theorem tps_if {l1 l2 : List Stmt} (hc : TPT X T c tt) (ha : TPSs X T l1 t) (hb : TPSs X T l2 u) : TPS X T (.If c l1 l2 pos) (tIfS tt t u) := ⟨fun pins s σ H D I k h =>
  wpAny_If (thT k (hc.run pins s σ H _ I k h) fun d s1 k1 ⟨H1, I1, q1⟩ => by
    cases d with
    | true => exact ha.run pins s1 σ H1 D I1 k1 q1
    | false => exact hb.run pins s1 σ H1 D I1 k1 q1)⟩
theorem tps_asg {tg : Expr} {g : TG} (he : TPE X T e te) (hg : TPG X T tg g) (hs : swapsWithSole [tg] e pos.line X.env = pure false) (hw : swappedStores [tg] e X.env = pure none) (h1 : (assignEach [tg] X.env).map (·.2) = [assign tg X.env]) :
    TPS X T (.Assign [tg] e pos) (tAsg te g) := ⟨fun pins s σ H D I k h => by
  refine wpAny_Assign_stores (thT k (he.run pins s σ H _ I k h) fun v s1 k1 z => ?_) hs hw
  obtain ⟨x, H1, I1, r1, q1⟩ := z
  rw [h1]
  exact hg.run pins s1 σ H1 x v _ I1 k1 r1 q1⟩
theorem tps_set {i : Nat} {x : Str} {pos' : Pos} (hN : X.N.Nodup) (hi : X.N[i]? = some x) (hx : Loc X.env.scope x) (he : TPE X T e te) (hs : swapsWith e (some (.Name x pos')) pos.line X.env = pure false) (hf : X.fn x = true ∨ X.env.scope.names.lookup x = some .local) :
    TPS X T (.Assign [.Name x pos'] e pos) (tAsg te (gName i)) := ⟨fun pins s σ H D I k h =>
  wpAny_Assign_Name (thn (he.run pins s σ H _ I k h) fun v s1 ⟨y, H1, I1, r1, q1⟩ => store_ok I1 hN hi hx r1 (fun s2 I2 => ⟨_, H1, I2, q1⟩) hf) hs⟩
theorem tps_aug {i : Nat} {x : Str} {op : Operator} {ti : TIp} {pos' : Pos} (hN : X.N.Nodup) (hi : X.N[i]? = some x) (hx : Loc X.env.scope x) (he : TPE X T e te) (ho : PIp X op ti) (hf : X.fn x = true ∨ X.env.scope.names.lookup x = some .local) :
    TPS X T (.AugAssign (.Name x pos') op e pos) (tAug i te ti) := ⟨fun pins s σ H D I k h => by
  obtain ⟨v, e1, h⟩ := h
  obtain ⟨m, hn, hl⟩ := I.loc
  have vis : Vis X.env.scope x := hx.imp id Or.inl
  obtain ⟨u, r, l⟩ := hl i x v hi e1 vis
  have go : wpAny (model X.prog X.w) X.A (eval e X.env) (fun w s2 => wpAny (model X.prog X.w) X.A (inplaceOp op u w) (fun r s3 => wpAny (model X.prog X.w) X.A (storeName X.env x r) (fun _ => SP X pins D .next) X.xe s3) X.xe s2) X.xe s :=
    thn (he.run pins s σ H _ I k h) fun w s1 ⟨y, H1, I1, r1, q1⟩ => thn (ho pins s1 σ H1 v y u w _ I1 r r1 q1) fun z s2 ⟨zv, H2, I2, r2, q2⟩ => store_ok I2 hN hi hx r2 (fun s3 I3 => ⟨_, H2, I3, q2⟩) hf
  refine wpAny_AugAssign_Name ?_
  rcases l with ⟨hk, hm⟩ | ⟨hk, cc, hc, hcell⟩
  · exact wpAny_loadName_local I.ok.kind hk hn hm go
  · rcases hk with hk | hk
    · exact wpAny_loadName_cell I.ok.kind hk hc hcell go
    · have z : X.env.scope.names.lookup x = some .free := hk
      rcases hx with q | q <;> (rw [q] at z; cases z)⟩
theorem tps_while {body : List Stmt} (hp : PassesOwn (model X.prog X.w) X.A X.env X.xe) (hc : TPT X T c tt) (hb : TPSs X T body t) : TPS X T (.While c body [] pos) (tWhile tt t) := ⟨fun pins s σ H D I k h => by
  obtain ⟨W, ⟨m0, w0⟩, turn⟩ := h
  refine wpAny_While (codeAny_whileLoop (fun n s' => ∃ σ' H', T ≤ s'.toks ∧ Inv X pins σ' H' s' ∧ W n σ' H') ?_ m0 ⟨σ, H, k, I, w0⟩)
  rintro n s1 ⟨σ1, H1, k1, I1, w1⟩
  refine wpAny_passesOwn hp (thT k1 (hc.run pins s1 σ1 H1 _ I1 k1 (turn n σ1 H1 w1)) fun d s2 k2 z => ?_)
  obtain ⟨H2, I2, q2⟩ := z
  cases d with
  | false =>
    refine wpAny_execs_nil ?_
    exact ⟨σ1, H2, I2, q2⟩
  | true =>
    obtain ⟨N, hN, q3⟩ := q2
    have back : ∀ {σ' : L2.St} {H' : Hp} {s' : Shared}, T ≤ s'.toks → Inv X pins σ' H' s' → N σ' H' → ∃ m, m < n ∧ ∃ σ'' H'', T ≤ s'.toks ∧ Inv X pins σ'' H'' s' ∧ W m σ'' H'' := fun {σ' H' s'} k' I' n' =>
      let ⟨m, hm, w'⟩ := hN σ' H' n'
      ⟨m, hm, σ', H', k', I', w'⟩
    refine wpAny_passesOwn hp (thT k2 (hb.run pins s2 σ1 H2 _ I2 k2 q3) fun f s3 k3 z => ?_)
    cases f with
    | next => obtain ⟨σ3, H3, I3, n3⟩ := z; exact back k3 I3 n3
    | cont => obtain ⟨σ3, H3, I3, n3⟩ := z; exact back k3 I3 n3
    | brk => exact z
    | ret v => exact z⟩
theorem tps_for {iter tg : Expr} {body : List Stmt} {wi : TI} {g : TG} (hp : PassesOwn (model X.prog X.w) X.A X.env X.xe) (hc : X.calm = true) (hi : TPI X T tg iter wi) (hg : TPG X T tg g) (hb : TPSs X T body t) (hs : ∀ x, foldedSetIterable iter X.env x = pure x) :
    TPS X T (.For tg iter body [] pos) (tFor wi g t) := ⟨fun pins s σ H D I k h => by
  refine wpAny_For (thT k (hi.run pins s σ H _ I k h) fun v s1 k1 h1 => thT k1 h1 fun itv s2 k2 h2 => ?_) hs
  obtain ⟨it, fp, tn, J, H2, eit, I2, Tn, st2, f2, W, ⟨m0, w0⟩, turn⟩ := h2
  cases eit
  have again : ∀ {H' : Hp}, (∀ b ∈ fp, H' b = none) → ∀ b ∈ fp, FpOk X pins H' b := fun z b hb => ⟨z b hb, (f2 b hb).2⟩
  refine codeAny_forLoop_any (fun n s' => ∃ i σ' H', T ≤ s'.toks ∧ Inv X pins σ' H' s' ∧ tn i s'.heap ∧ (∀ b ∈ fp, H' b = none) ∧ W i n σ' H') ?_ m0 ⟨0, σ, H2, k2, I2, st2, fun b hb => (f2 b hb).1, w0⟩
  rintro n s3 ⟨i, σ3, H3, k3, I3, st3, fr3, w3⟩
  rcases turn i n σ3 H3 w3 with ⟨stop, qn⟩ | ⟨go, N, hN, step⟩
  · refine wpAny_passesOwn hp (thn (Tn.done X rfl rfl rfl hc i pins s3 σ3 H3 X.xe I3 (again fr3) st3 stop) fun r s4 z => ?_)
    obtain ⟨er, I4⟩ := z
    cases er
    exact wpAny_execs_nil ⟨σ3, H3, I4, qn⟩
  · refine wpAny_passesOwn hp (thT k3 (Tn.item X rfl rfl rfl hc i pins s3 σ3 H3 X.xe I3 (again fr3) st3 go) fun r s4 k4 z => ?_)
    obtain ⟨u, er, h4⟩ := z
    cases er
    refine wpAny_passesOwn hp (thT k4 h4 fun _ s5 k5 z => ?_)
    obtain ⟨x, H5, I5, r5, y5, st5, fr5⟩ := z
    have J5 := I5.pinned (again fr5) (Tn.obj _ _ st5)
    refine wpAny_passesOwn hp (thT k5 (hg.run _ s5 σ3 H5 x u _ J5 k5 r5 (step x H5 y5)) fun _ s6 k6 z => ?_)
    obtain ⟨σ6, H6, I6, q6⟩ := z
    have pinE : ∀ {s' : Shared} {σ' : L2.St} {H' : Hp}, Inv X (pins ++ pinsAt fp s5.heap) σ' H' s' → ∀ b ∈ fp, ∀ o, s5.heap.get? b = some o → s'.heap.get? b = some o ∧ H' b = none := fun I' b hb o e =>
      let q := I'.pin (b, o) (List.mem_append_right _ (List.mem_append_right _ (mem_pinsAt hb e)))
      ⟨q.1, q.2.1⟩
    have back : ∀ {σ7 : L2.St} {H7 : Hp} {s7 : Shared}, T ≤ s7.toks → Inv X (pins ++ pinsAt fp s5.heap) σ7 H7 s7 → N σ7 H7 → ∃ m, m < n ∧ ∃ i σ' H', T ≤ s7.toks ∧ Inv X pins σ' H' s7 ∧ tn i s7.heap ∧ (∀ b ∈ fp, H' b = none) ∧ W i m σ' H' := fun {σ7 H7 s7} k7 I7 n7 => by
      obtain ⟨m, hm, w7⟩ := hN σ7 H7 n7
      refine ⟨m, hm, i + 1, σ7, H7, k7, I7.unpinned, Tn.keep _ _ _ st5 fun b hb o e => (pinE I7 b hb o e).1, fun b hb => ?_, w7⟩
      obtain ⟨o, e, _⟩ := Tn.obj _ _ st5 b hb
      exact (pinE I7 b hb o e).2
    refine wpAny_passesOwn hp (thT k6 (hb.run _ s6 σ6 H6 _ I6 k6 q6) fun f s7 k7 z => ?_)
    cases f with
    | next => obtain ⟨σ7, H7, I7, n7⟩ := z; exact back k7 I7 n7
    | cont => obtain ⟨σ7, H7, I7, n7⟩ := z; exact back k7 I7 n7
    | brk => obtain ⟨σ7, H7, I7, q7⟩ := z; exact ⟨σ7, H7, I7.unpinned, q7⟩
    | ret v => obtain ⟨x7, σ7, H7, I7, r7, q7⟩ := z; exact ⟨x7, σ7, H7, I7.unpinned, r7, q7⟩⟩
end

/-! ### iterables -/
section
variable {tg l : Expr} {tx : TE}
theorem tpi_list (hl : TPE X T l tx) : TPI X T tg l (iList X.K tx) := ⟨fun pins s σ H R I k h =>
  thn (hl.run pins s σ H _ I k h) fun v s1 ⟨x, H1, I1, r1, a, ea, ⟨xs, hq⟩, q⟩ => by
    cases ea
    cases r1
    obtain ⟨its, rv, p, hz⟩ := I1.list hq
    refine wpAny_pyIter_list p.isList ⟨s1.heap.objs.size, [s1.heap.objs.size], _, _, H1, rfl, I1.kept (t' := s1.toks) fun b o e => Heap.get?_push_of_some _ e, turn_list a _, ⟨_, Heap.get?_push_size _ rfl, rfl, rfl⟩, fun b hb => ?_, q⟩
    cases List.mem_singleton.mp hb
    exact I1.fpOk (Nat.le_refl _) (I1.hok.fresh (Nat.le_refl _))⟩
theorem tpi_tup (hl : TPE X T l tx) : TPI X T tg l (iTup X.K tx) := ⟨fun pins s σ H R I k h =>
  thn (hl.run pins s σ H _ I k h) fun v s1 ⟨x, H1, I1, r1, a, ea, ⟨xs, hq⟩, q⟩ => by
    cases ea
    cases r1
    obtain ⟨its, rv, p, hz⟩ := I1.tuple hq
    refine wpAny_pyIter_tuple (show s1.heap.IsTuple a its.toArray from p) ⟨s1.heap.objs.size, [s1.heap.objs.size], _, _, H1, rfl, I1.kept (t' := s1.toks) fun b o e => Heap.get?_push_of_some _ e, turn_tuple a _, ⟨_, Heap.get?_push_size _ rfl, rfl, rfl⟩, fun b hb => ?_, q⟩
    cases List.mem_singleton.mp hb
    exact I1.fpOk (Nat.le_refl _) (I1.hok.fresh (Nat.le_refl _))⟩
theorem tpi_str (hl : TPE X T l tx) : TPI X T tg l (iStr tx) := ⟨fun pins s σ H R I k h =>
  thn (hl.run pins s σ H _ I k h) fun v s1 ⟨y, H1, I1, r1, x, ex, q⟩ => by
    cases ex
    obtain ⟨t, rfl⟩ := r1
    cases ha : x.cps.all (· < 128)
    · exact wpAny_pyIter_wide ha (pi_one (tk := s1.toks) I1 _ (turn_str _ x t "str_iterator" (.inr rfl)) ⟨_, Heap.get?_push_size _ rfl, rfl, rfl⟩ q)
    · exact wpAny_pyIter_ascii ha (pi_one (tk := s1.toks) I1 _ (turn_str _ x t "str_ascii_iterator" (.inl rfl)) ⟨_, Heap.get?_push_size _ rfl, rfl, rfl⟩ q)⟩
theorem tpi_range1 {p : Pos} (hg : Gl X "range") (hm : X.mg "range" = none) (ha : TPA X T [a] tl) (hs : starEach [a] X.env = [(false, eval a X.env)]) : TPI X T tg (.Call (.Name "range" p) [a] [] pos) (iRng1 tl) := ⟨fun pins s σ H R I k h => by
  refine Call_ (ld_blt I hg hm boot_range (PyProof.Rows.callWith_type1 (thn (ha.run pos pins s σ H _ I k h) fun us s1 z => ?_) hs rfl))
  obtain ⟨vs, H1, I1, r1, j, ev, g1, g2, q⟩ := z
  cases ev
  obtain ⟨u, rfl, t, rfl⟩ := vals1 r1
  exact call_range_1 (range_it I1 (by omega) (by omega) g1 g2 (by simpa using q))⟩
theorem tpi_range2 {p : Pos} (hg : Gl X "range") (hm : X.mg "range" = none) (ha : TPA X T [a, b] tl) (hs : starEach [a, b] X.env = [(false, eval a X.env), (false, eval b X.env)]) (hs2 : starEach [b] X.env = [(false, eval b X.env)]) :
    TPI X T tg (.Call (.Name "range" p) [a, b] [] pos) (iRng2 tl) := ⟨fun pins s σ H R I k h => by
  refine Call_ (ld_blt I hg hm boot_range (PyProof.Rows.callWith_type1 (thn (ha.run pos pins s σ H _ I k h) fun us s1 z => ?_) (by rw [hs, hs2]) (by rw [hs2]; rfl)))
  obtain ⟨vs, H1, I1, r1, i, j, ev, ⟨g1, g2, g3, g4⟩, q⟩ := z
  cases ev
  obtain ⟨u, u2, rfl, ⟨t, rfl⟩, ⟨t2, rfl⟩⟩ := vals2 r1
  exact call_range_2 (range_it I1 g1 g2 g3 g4 q)⟩
end

/-! ### calls of built-ins -/
section
variable {x : Str} {p apos cpos : Pos} {id Ty : String} {r : List V → Hp → VK → Prop}
theorem tpe_callB (hc : CallR X (.builtin id) r) (hg : Gl X x) (hm : X.mg x = none) (hv : bootBuiltins x = some (.builtin id)) (ha : TPA X T (e :: es) tl) (hn : x ≠ "__name__") (hdb : (x == ("__debug__" : Str)) = false)
    (he : starEach (e :: es) X.env = (false, eval e X.env) :: starEach es X.env) (hpl : (backTo pos (starEach es X.env)).any (·.1) = false) : TPE X T (.Call (.Name x p) (e :: es) [] pos) (tCB r tl) := ⟨fun pins s σ H Q I k h =>
  wpAny_Call_Name_kw (ld_blt I hg hm hv (PyProof.Rows.callWith_builtin1 (thn (ha.run pos pins s σ H _ I k h) fun us s1 ⟨vs, H1, I1, r1, q1⟩ => hc pins s1 σ H1 vs us Q I1 r1 q1) he hpl) hn hdb)⟩
theorem tpe_callTy (hc : CallR X (.type Ty) r) (hg : Gl X x) (hm : X.mg x = none) (hv : bootBuiltins x = some (.type Ty)) (ha : TPA X T (e :: es) tl) (hn : x ≠ "__name__") (hdb : (x == ("__debug__" : Str)) = false)
    (he : starEach (e :: es) X.env = (false, eval e X.env) :: starEach es X.env) (hpl : (backTo pos (starEach es X.env)).any (·.1) = false) : TPE X T (.Call (.Name x p) (e :: es) [] pos) (tCB r tl) := ⟨fun pins s σ H Q I k h =>
  wpAny_Call_Name_kw (ld_blt I hg hm hv (PyProof.Rows.callWith_type1 (thn (ha.run pos pins s σ H _ I k h) fun us s1 ⟨vs, H1, I1, r1, q1⟩ => hc pins s1 σ H1 vs us Q I1 r1 q1) he hpl) hn hdb)⟩
variable {o : Expr} {to : TE} {name : Str} {rm : V → List V → Hp → VK → Prop}
theorem tpe_bm0 (pa : PlainAttrs Ty) (slot : Slot Ty name id) (hty : typeOf (.builtin id) = pure (.type "method_descriptor")) (hm : MtR X id rm) (ho : TPE X T o to)
    (hbase : attributeBase o name X.env (eval o X.env) = eval o X.env) (hline : (apos.endLine == cpos.line) = true) : TPE X T (.Call (.Attribute o name apos) [] [] cpos) (tBM0 X.K Ty rm to) := ⟨fun pins s σ H Q I k h =>
  wpAny_Call_method0_late hbase hline (thn (ho.run pins s σ H _ I k h) fun v s1 ⟨x, H1, I1, r1, ty, q1⟩ =>
    let ⟨h1, h2⟩ := tyV_is I1 r1 ty
    ⟨Ty, id, pa, slot, hty, h1, h2, Calls.callWith_builtin rfl (PySem.evalArgs_none (hm pins s1 σ H1 x [] v [] Q I1 r1 .nil q1))⟩)⟩
theorem tpe_bm (pa : PlainAttrs Ty) (slot : Slot Ty name id) (hty : typeOf (.builtin id) = pure (.type "method_descriptor")) (hm : MtR X id rm) (ho : TPE X T o to) (ha : TPA X T (e :: es) tl)
    (hbase : attributeBase o name X.env (eval o X.env) = eval o X.env)
    (hfew : ((backTo cpos (starEach (e :: es) X.env)).all (fun x => !x.1) && (backToKw cpos (keywordEach [] X.env)).all (fun x => x.1.isSome)
      && decide ((e :: es).length + ([] : List Keyword).length + (if ([] : List Keyword).isEmpty then 0 else 1) < 30)) = true)
    (hline : (apos.endLine == cpos.line) = true) (hs : starEach (e :: es) X.env = (false, eval e X.env) :: starEach es X.env) (hplain : (backTo cpos (starEach es X.env)).any (·.1) = false) :
    TPE X T (.Call (.Attribute o name apos) (e :: es) [] cpos) (tBM X.K Ty rm to tl) := ⟨fun pins s σ H Q I k h => by
  refine wpAny_Call_method_late hbase hfew hline rfl (thT k (ho.run pins s σ H _ I k h) fun v s1 k1 z => ?_)
  obtain ⟨x, H1, I1, r1, ty, q1⟩ := z
  obtain ⟨h1, h2⟩ := tyV_is I1 r1 ty
  have hA := ha.run cpos pins s1 σ H1 _ I1 k1 q1
  rw [hs] at hA ⊢
  refine ⟨Ty, id, pa, slot, hty, h1, h2, Calls.callWith_builtin (by show (false || (backTo cpos (starEach es X.env)).any (·.1)) = false; rw [hplain] <;> rfl) (Calls.evalArgs_plain ?_)⟩
  exact thn hA fun us s2 ⟨vs, H2, I2, r2, q2⟩ => hm pins s2 σ H2 x vs v us Q I2 r1 r2 q2⟩
end

/-! ### defs, where so many tokens are out -/
structure FnT (P : Program) (w : World) (K : PySem.W.Frag) (mg : Str → Option Value) (base : Heap) (CX : CXT) (T : Nat) (k : Nat) (f : Addr) (fd : FuncData) (ps : List Str) (sp : Sp) : Prop where
  len : ∀ vs H Q E, sp vs H Q E → vs.length = ps.length
  run : ∀ (A : Around) (outer : List Env) (s : Shared) (H : Hp) (args : Args) (us : List Value) (vs : List V) (Q : VK) (E : XK), Room k A → T ≤ s.toks → Env0 P w K mg base A outer s H → BindsTo s fd args (ps.zip us) → Vals vs us → sp vs H Q E →
    codeAny (model P w) A (.call (.ref f) args) (CR CX outer P w H s Q E) s
theorem FnT.of {P : Program} {w : World} {K : PySem.W.Frag} {mg : Str → Option Value} {base : Heap} {CX : CXT} {k : Nat} {f : Addr} {fd : FuncData} {ps : List Str} {sp : Sp} (F : FnOk P w K mg base CX k f fd ps sp) : FnT P w K mg base CX T k f fd ps sp :=
  ⟨F.len, fun A outer s H args us vs Q E hr _ => F.run A outer s H args us vs Q E hr⟩
theorem FnT.mono {P : Program} {w : World} {K : PySem.W.Frag} {mg : Str → Option Value} {base : Heap} {CX : CXT} {j k : Nat} {f : Addr} {fd : FuncData} {ps : List Str} {sp : Sp} (F : FnT P w K mg base CX T j f fd ps sp) (h : j ≤ k) :
    FnT P w K mg base CX T k f fd ps sp := ⟨F.len, fun A outer s H args us vs Q E hr => F.run A outer s H args us vs Q E (hr.mono h)⟩
theorem FnT.imp {P : Program} {w : World} {K : PySem.W.Frag} {mg : Str → Option Value} {base : Heap} {CX : CXT} {k : Nat} {f : Addr} {fd : FuncData} {ps : List Str} {sp sp' : Sp} (F : FnT P w K mg base CX T k f fd ps sp)
    (h : ∀ vs H Q E, sp' vs H Q E → sp vs H Q E) : FnT P w K mg base CX T k f fd ps sp' :=
  ⟨fun vs H Q E q => F.len vs H Q E (h _ _ _ _ q), fun A outer s H args us vs Q E hr kT he hb hv hs => F.run A outer s H args us vs Q E hr kT he hb hv (h _ _ _ _ hs)⟩
section
variable {CX : CXT} {k : Nat} {f : Addr} {fd : FuncData} {ps : List Str} {sp : Sp} {x : Str} {p : Pos} {E : L2.St → XK}
theorem run_fnT {pins : List (Addr × Obj)} {σ : L2.St} {H : Hp} {s : Shared} {Q : VK} {us : List Value} {vs : List V} (F : FnT X.prog X.w X.K X.mg X.base CX T k f fd ps sp) (hr : Room k X.A) (hb : Binds X.K fd ps []) (hx : PassesAt CX X σ (E σ)) (kT : T ≤ s.toks)
    (I : Inv X pins σ H s) (r : Vals vs us) (h : sp vs H Q (E σ)) : wpAny (model X.prog X.w) X.A (call (.ref f) us) (EP X pins σ Q) X.xe s := by
  have hl : us.length = ps.length := r.length.symm.trans (F.len _ _ _ _ h)
  have hb' := hb s us I.kIn (by rw [List.append_nil]; exact hl)
  rw [List.append_nil] at hb'
  refine wpAny_call (codeAny_mono (F.run X.A X.stack s H ⟨us, []⟩ us vs Q (E σ) hr kT I.env0 hb' r h) fun res s' hq => ?_)
  cases res with
  | error err => exact hx pins H s err s' I hq
  | ok fl =>
    cases fl with
    | ret u => exact I.after hq
    | next => exact False.elim hq
    | brk => exact False.elim hq
    | cont => exact False.elim hq
theorem tpe_callS (F : FnT X.prog X.w X.K X.mg X.base CX T k f fd ps sp) (hr : Room k X.A) (hg : Gl X x) (hm : X.mg x = some (.ref f)) (hk : PySem.W.keepIn X.K (.ref f) = true) (hb : Binds X.K fd ps []) (hx : ∀ σ, PassesAt CX X σ (E σ))
    (ha : TPA X T (e :: es) tl) (hdb : (x == ("__debug__" : Str)) = false) (he : starEach (e :: es) X.env = (false, eval e X.env) :: starEach es X.env) (hpl : (backTo pos (starEach es X.env)).any (·.1) = false) :
    TPE X T (.Call (.Name x p) (e :: es) [] pos) (tCallS sp E tl) := ⟨fun pins s σ H Q I kT h =>
  wpAny_Call_Name_kw (ld_glob I hg hm (PySem.W.callWith_K (h₀ := X.base) I.ok.mod.kin hk (thT kT (ha.run pos pins s σ H _ I kT h) fun us s1 k1 ⟨vs, H1, I1, r, q⟩ => ⟨I1.kIn, run_fnT F hr hb (hx σ) k1 I1 r q⟩) he hpl) hdb)⟩
theorem tpe_call0 (F : FnT X.prog X.w X.K X.mg X.base CX T k f fd ps sp) (hr : Room k X.A) (hg : Gl X x) (hm : X.mg x = some (.ref f)) (hk : PySem.W.keepIn X.K (.ref f) = true) (hb : Binds X.K fd ps []) (hx : ∀ σ, PassesAt CX X σ (E σ)) (hdb : (x == ("__debug__" : Str)) = false) :
    TPE X T (.Call (.Name x p) [] [] pos) (tCallS sp E tNil) := ⟨fun pins s σ H Q I kT h =>
  wpAny_Call_Name_kw (ld_glob I hg hm (PySem.W.callWith_K0 I.kIn hk (run_fnT (us := []) F hr hb (hx σ) kT I .nil h)) hdb)⟩
end
/-- a def by its body -/
theorem fnT_of {CX : CXT} {P : Program} {w : World} {K : PySem.W.Frag} {mg : Str → Option Value} {base : Heap} {k : Nat} {x qual : Str} {st : Stmt} {f : Addr} {fd : FuncData} {N ps : List Str} {sp : Sp} (F : Fun K x qual st f fd) (S : FnScope N ps (defScope st))
    (len : ∀ vs H Q E, sp vs H Q E → vs.length = ps.length)
    (hbody : ∀ (cdv : Value) (A : Around) (outer : List Env) (s : Shared) (H : Hp) (vs : List V) (Q : VK) (E : XK), Room k (A.deeper (envOfC qual (defScope st) s.heap.objs.size f cdv)) → T ≤ s.toks → sp vs H Q E →
      ∃ t, TPSs (cxOf CX P w K mg base N qual (defScope st) f cdv A outer s H E) T (defBody st) t ∧ t { nx := fun _ H' => Q .non H', rt := Q } (L2.start N vs) H) : FnT P w K mg base CX T (k + 1) f fd ps sp := by
  obtain ⟨oc, od, kV, doc, pm, an, cdv, ct, osl, rfl, lk, hcd⟩ := F.ex
  refine ⟨len, fun A outer s H args us vs Q E hr kT e0 hb r hsp => ?_⟩
  have old : ∀ b o, base.get? b = some o → s.heap.get? b = some o := fun b o e => (e0.bs b o e).1
  have KX : K.In s.heap := e0.mod.kin.keeps old
  have hkind : ∀ y ∈ ps.zip us, (defScope st).names.lookup y.1 = some .local ∨ ((defScope st).names.lookup y.1 = some .cell ∧ ((cellsFrom (s.heap.objs.size + 1) (defScope st).names []).lookup y.1).isSome = true) := fun y hy =>
    (S.par y.1 (List.of_mem_zip (show (y.1, y.2) ∈ ps.zip us from hy)).1).imp id fun q => ⟨q, PySem.W.cellsFrom_some _ _ _ (.inl q)⟩
  refine codeAny_call_function hr.depth (KX _ _ lk) rfl S.co S.gen rfl (PySem.W.codeRec_of KX hcd) (hb _ _ _ _ ?_)
  refine wpAny_with_toks kT (wpAny_newFunctionEnv_cells S.kind hkind fun env he s1 z k1 => ?_)
  cases he
  refine ⟨(e0.mod.nolimit.keeps old).keeps z.toInCall.keep, codeAny_func ?_⟩
  obtain ⟨t, ht, hq⟩ := hbody cdv A outer s H vs Q E (hr.deeper _) kT hsp
  have I := inv_start (E := E) (CX := CX) S hr.hd e0 (len _ _ _ _ hsp) r z
  refine wpAny_mono (ht.run [] s1 (L2.start N vs) H _ I k1 hq) (fun fl s' hs => ?_) fun err s' hs => hs
  have fin : ∀ {σ' : L2.St} {H' : Hp} {v : V} {u : Value}, Inv (cxOf CX P w K mg base N qual (defScope st) f cdv A outer s H E) [] σ' H' s' → RelV v u → Q v H' → CE outer P w H s Q u s' :=
    fun J rv q => ⟨_, _, J.os, J.bare, J.base, J.hok, rv, q⟩
  cases fl with
  | ret u => obtain ⟨v, σ', H', J, rv, q⟩ := hs; exact fin J rv q
  | next => obtain ⟨σ', H', J, q⟩ := hs; exact fin (v := V.non) (u := Value.none) J rfl q
  | brk => exact False.elim hs.choose_spec.choose_spec.2
  | cont => exact False.elim hs.choose_spec.choose_spec.2
end
end DL
end

section
set_option Elab.async false
set_option linter.all false
set_option maxRecDepth 100000
set_option maxHeartbeats 2000000
namespace DL
open PySem L2

/-! ### slots -/
abbrev PSt := List (Option D)
def lk : PSt → Nat → Option D
  | [], _ => none
  | x :: _, 0 => x
  | _ :: r, n + 1 => lk r n
def st : PSt → Nat → Option D → PSt
  | [], _, _ => []
  | _ :: r, 0, d => d :: r
  | x :: r, n + 1, d => x :: st r n d
structure RepS (K : PySem.W.Frag) (H : Hp) (σ : St) (ρ : PSt) : Prop where
  len : ρ.length = σ.length
  get : ∀ i d, lk ρ i = some d → ∃ v, σ[i]? = some (some v) ∧ Rep K H v d
theorem RepS.ext {K : PySem.W.Frag} {H H' : Hp} {σ : St} {ρ : PSt} (e : HExt H H') (s : RepS K H σ ρ) : RepS K H' σ ρ := ⟨s.len, fun i d h => let ⟨v, h1, h2⟩ := s.get i d h; ⟨v, h1, Rep.ext e d v h2⟩⟩
theorem st_length : ∀ (ρ : PSt) (i : Nat) (d : Option D), (st ρ i d).length = ρ.length
  | [], _, _ => rfl
  | _ :: _, 0, _ => rfl
  | x :: r, n + 1, d => by show (st r n d).length + 1 = r.length + 1; rw [st_length r n d]
theorem lk_st : ∀ (ρ : PSt) (i j : Nat) (d : Option D) (x : D), lk (st ρ i d) j = some x → (i = j ∧ d = some x) ∨ (i ≠ j ∧ lk ρ j = some x)
  | [], _, j, _, x, h => by cases (show (none : Option D) = some x from h)
  | y :: r, 0, 0, d, x, h => .inl ⟨rfl, h⟩
  | y :: r, 0, j + 1, d, x, h => .inr ⟨Nat.ne_of_lt (Nat.succ_pos j), h⟩
  | y :: r, i + 1, 0, d, x, h => .inr ⟨Nat.succ_ne_zero i, h⟩
  | y :: r, i + 1, j + 1, d, x, h => by
    rcases lk_st r i j d x h with ⟨e, q⟩ | ⟨e, q⟩
    · exact .inl ⟨by rw [e], q⟩
    · exact .inr ⟨fun z => e (Nat.succ.inj z), q⟩
theorem lk_lt {x : D} {d : Option D} : ∀ (ρ : PSt) (i : Nat), lk (st ρ i d) i = some x → i < ρ.length
  | [], i, h => by cases (show (none : Option D) = some x from h)
  | y :: r, 0, h => Nat.succ_pos _
  | y :: r, i + 1, h => Nat.succ_lt_succ (lk_lt r i h)
theorem RepS.set {K : PySem.W.Frag} {H : Hp} {σ : St} {ρ : PSt} {i : Nat} {v : V} {d : D} (s : RepS K H σ ρ) (r : Rep K H v d) : RepS K H (σ.set i (some v)) (st ρ i (some d)) := by
  refine ⟨by rw [st_length, List.length_set]; exact s.len, fun j x h => ?_⟩
  rcases lk_st ρ i j _ x h with ⟨e, q⟩ | ⟨e, q⟩
  · cases q
    subst e
    refine ⟨v, ?_, r⟩
    have hi : i < σ.length := by
      rw [← s.len]
      exact lk_lt ρ i h
    rw [List.getElem?_set_self hi]
  · obtain ⟨w, h1, h2⟩ := s.get j x q
    exact ⟨w, by rw [List.getElem?_set_ne e]; exact h1, h2⟩
theorem RepS.del {K : PySem.W.Frag} {H : Hp} {σ : St} {ρ : PSt} {i : Nat} {o : Option V} (s : RepS K H σ ρ) : RepS K H (σ.set i o) (st ρ i none) := by
  refine ⟨by rw [st_length, List.length_set]; exact s.len, fun j x h => ?_⟩
  rcases lk_st ρ i j _ x h with ⟨e, q⟩ | ⟨e, q⟩
  · cases q
  · obtain ⟨w, h1, h2⟩ := s.get j x q
    exact ⟨w, by rw [List.getElem?_set_ne e]; exact h1, h2⟩

/-! ### readings -/
abbrev QK := D → Mp → Prop
abbrev QX := Addr → List (Str × D) → Mp → Prop
abbrev QE := PSt → Mp → QK → QX → Prop
abbrev QT := PSt → Mp → (Bool → Mp → Prop) → QX → Prop
abbrev QA := PSt → Mp → (List D → Mp → Prop) → QX → Prop
def RepX (K : PySem.W.Frag) (H : Hp) (dd : Option Addr) (fs : List (Str × D)) : Prop := (dd = none ∧ fs = []) ∨ ∃ a vs, dd = some a ∧ H a = some (.xd vs) ∧ RepN K H vs fs
/-- what is wished of exceptions, at slots σ -/
def okX (K : PySem.W.Frag) (W : WX) (σ : St) (H : Hp) (E : QX) : Prop := ∀ C dd fs H' M', HExt H H' → RepM K H' M' → RepX K H' dd fs → E C fs M' → W (.ref C) dd σ H'
theorem okX.ext {K : PySem.W.Frag} {W : WX} {σ : St} {H H' : Hp} {E : QX} (e : HExt H H') (h : okX K W σ H E) : okX K W σ H' E := fun C dd fs H2 M' e2 => h C dd fs H2 M' (e.trans e2)
def low (K : PySem.W.Frag) (W : WX) {α β : Type} (R : Hp → β → α → Prop) (t : PSt → Mp → (α → Mp → Prop) → QX → Prop) : St → Hp → (β → Hp → Prop) → Prop := fun σ H Q =>
  ∃ ρ M Qd E, RepS K H σ ρ ∧ RepM K H M ∧ t ρ M Qd E ∧ (∀ v d H' M', HExt H H' → RepM K H' M' → R H' v d → Qd d M' → Q v H') ∧ okX K W σ H E
abbrev lowE (K : PySem.W.Frag) (W : WX) (t : QE) : TE := low K W (Rep K) t
abbrev lowT (K : PySem.W.Frag) (W : WX) (t : QT) : TT := low K W (fun _ b c => b = c) t
abbrev lowA (K : PySem.W.Frag) (W : WX) (t : QA) : TA := low K W (Reps K) t
structure QPE (X : Cx) (T : Nat) (W : WX) (e : Expr) (t : QE) : Prop where
  pe : TPE X T e (lowE X.K W t)
structure QPT (X : Cx) (T : Nat) (W : WX) (e : Expr) (t : QT) : Prop where
  pt : TPT X T e (lowT X.K W t)
structure QPW (X : Cx) (T : Nat) (W : WX) (e : Expr) (t : QT) : Prop where
  pw : TPW X T e (lowT X.K W t)
structure QPA (X : Cx) (T : Nat) (W : WX) (es : List Expr) (t : QA) : Prop where
  pa : TPA X T es (lowA X.K W t)
/-- sequence -/
def qBind {α β : Type} (ta : PSt → Mp → (α → Mp → Prop) → QX → Prop) (k : α → PSt → Mp → (β → Mp → Prop) → QX → Prop) : PSt → Mp → (β → Mp → Prop) → QX → Prop :=
  fun ρ M Q E => ta ρ M (fun x M1 => k x ρ M1 Q E) E
theorem low_bind {K : PySem.W.Frag} {W : WX} {α β γ δ : Type} {R : Hp → γ → α → Prop} {S : Hp → δ → β → Prop} {ta : PSt → Mp → (α → Mp → Prop) → QX → Prop} {k : α → PSt → Mp → (β → Mp → Prop) → QX → Prop} {σ : St} {H : Hp} {Q : δ → Hp → Prop}
    (h : low K W S (qBind ta k) σ H Q) : low K W R ta σ H (fun v H1 => ∃ d, R H1 v d ∧ low K W S (k d) σ H1 Q) := by
  obtain ⟨ρ, M, Qd, E, hs, hm, ht, hq, hx⟩ := h
  exact ⟨ρ, M, _, E, hs, hm, ht, fun v d H' M' e m r q => ⟨d, r, ρ, M', Qd, E, hs.ext e, m, q, fun v2 d2 H2 M2 e2 => hq v2 d2 H2 M2 (e.trans e2), hx.ext e⟩, hx⟩
theorem low_imp {K : PySem.W.Frag} {W : WX} {α γ : Type} {R : Hp → γ → α → Prop} {t u : PSt → Mp → (α → Mp → Prop) → QX → Prop} {σ : St} {H : Hp} {Q : γ → Hp → Prop} (h : low K W R t σ H Q) (i : ∀ ρ M Q E, t ρ M Q E → u ρ M Q E) : low K W R u σ H Q := by
  obtain ⟨ρ, M, Qd, E, hs, hm, ht, hq, hx⟩ := h
  exact ⟨ρ, M, Qd, E, hs, hm, i _ _ _ _ ht, hq, hx⟩
theorem low_mono {K : PySem.W.Frag} {W : WX} {α γ : Type} {R : Hp → γ → α → Prop} {t : PSt → Mp → (α → Mp → Prop) → QX → Prop} {σ : St} {H : Hp} {Q Q' : γ → Hp → Prop} (h : low K W R t σ H Q) (i : ∀ v H', Q v H' → Q' v H') : low K W R t σ H Q' := by
  obtain ⟨ρ, M, Qd, E, hs, hm, ht, hq, hx⟩ := h
  exact ⟨ρ, M, Qd, E, hs, hm, ht, fun v d H' M' e m r q => i _ _ (hq v d H' M' e m r q), hx⟩
theorem _root_.L2.PE.impD {X : Cx} {e : Expr} {t t' : TE} (h : PE X e t) (i : ∀ σ H Q, t' σ H Q → t σ H Q) : PE X e t' := ⟨fun pins s σ H Q I q => h.run pins s σ H Q I (i _ _ _ q)⟩
theorem _root_.L2.PT.impD {X : Cx} {e : Expr} {t t' : TT} (h : PT X e t) (i : ∀ σ H Q, t' σ H Q → t σ H Q) : PT X e t' := ⟨fun pins s σ H Q I q => h.run pins s σ H Q I (i _ _ _ q)⟩
theorem _root_.L2.PW.impD {X : Cx} {e : Expr} {t t' : TT} (h : PW X e t) (i : ∀ σ H Q, t' σ H Q → t σ H Q) : PW X e t' := ⟨fun wh pins s σ H Q I q => h.run wh pins s σ H Q I (i _ _ _ q)⟩
theorem _root_.L2.PA.impD {X : Cx} {e : List Expr} {t t' : TA} (h : PA X e t) (i : ∀ σ H Q, t' σ H Q → t σ H Q) : PA X e t' := ⟨fun pos pins s σ H Q I q => h.run pos pins s σ H Q I (i _ _ _ q)⟩
/-- a value that is there at once -/
theorem low_ret {K : PySem.W.Frag} {W : WX} {α γ : Type} {R : Hp → γ → α → Prop} {d : α} {v : γ} {σ : St} {H : Hp} {Q : γ → Hp → Prop} (r : R H v d) (h : low K W R (fun _ M Q _ => Q d M) σ H Q) : Q v H := by
  obtain ⟨ρ, M, Qd, E, hs, hm, ht, hq, hx⟩ := h
  exact hq v d H M (HExt.refl H) hm r ht

/-! ### names and constants -/
def qVar (i : Nat) : QE := fun ρ M Q _ => match lk ρ i with
  | some d => Q d M
  | none => False
def qC (d : D) : QE := fun _ M Q _ => Q d M
section
variable {X : Cx} {T : Nat} {W : WX} {pos : Pos}
theorem qv (i : Nat) {x : Str} (hN : X.N[i]? = some x := by rfl) (hv : Vis X.env.scope x := by first | exact Or.inl rfl | exact Or.inr (Or.inl rfl) | exact Or.inr (Or.inr rfl)) (hd : (x == ("__debug__" : Str)) = false := by decide)
    (hcd : (x == ("__classdict__" : Str)) = false := by decide) : QPE X T W (.Name x pos) (qVar i) := by
  refine ⟨(TPE.of (pe_var hN hv hd hcd)).impD fun σ H Q h => ?_⟩
  obtain ⟨ρ, M, Qd, E, hs, hm, ht, hq, hx⟩ := h
  unfold qVar at ht
  cases e : lk ρ i with
  | none => rw [e] at ht; exact ht.elim
  | some d =>
    rw [e] at ht
    obtain ⟨v, h1, h2⟩ := hs.get i d e
    exact ⟨v, h1, hq v d H M (HExt.refl H) hm h2 ht⟩
theorem qcst {e : Expr} {v : V} {d : D} (h : PE X e (tC v)) (r : ∀ H, Rep X.K H v d) : QPE X T W e (qC d) := ⟨(TPE.of h).impD fun σ H Q h => low_ret (r H) h⟩
theorem q_int {i j} : QPE X T W (.Constant (.int i) j pos) (qC (.int i)) := qcst pe_int fun H => by rw [Rep]
theorem q_bl {i j} : QPE X T W (.Constant (.bool i) j pos) (qC (.bl i)) := qcst pe_bl fun H => by rw [Rep]
theorem q_non {j} : QPE X T W (.Constant .none j pos) (qC .non) := qcst pe_non fun H => by rw [Rep]
theorem q_str {x : Str} {j} : QPE X T W (.Constant (.str x) j pos) (qC (.str x.cps.toList)) := qcst pe_str fun H => by rw [Rep]
/-- a name of the module -/
theorem q_glob {x : Str} {u : Value} {d : D} {v : V} (hg : Gl X x) (hm : X.mg x = some u) (r : RelV v u) (q : ∀ H, Rep X.K H v d) (hd : (x == ("__debug__" : Str)) = false := by decide) : QPE X T W (.Name x pos) (qC d) := qcst (pe_glob hg hm r hd) q
theorem q_bltn {x : Str} {u : Value} {d : D} {v : V} (hg : Gl X x) (hm : X.mg x = none) (hv : bootBuiltins x = some u) (r : RelV v u) (q : ∀ H, Rep X.K H v d) (hn : x ≠ "__name__" := by decide) (hd : (x == ("__debug__" : Str)) = false := by decide) : QPE X T W (.Name x pos) (qC d) := qcst (pe_bltn hg hm hv r hn hd) q

/-! ### operators -/
abbrev Q2 := D → D → Mp → QK → Prop
abbrev Q1 := D → Mp → QK → Prop
def lowR2 (K : PySem.W.Frag) (r : Q2) : R2 := fun x y H Q => ∃ dx dy M Qd, Rep K H x dx ∧ Rep K H y dy ∧ RepM K H M ∧ r dx dy M Qd ∧ ∀ v d H' M', HExt H H' → RepM K H' M' → Rep K H' v d → Qd d M' → Q v H'
def OpQ (X : Cx) (f : Value → Value → Sem Value) (r : Q2) : Prop := OpR X f (lowR2 X.K r)
theorem opR_imp {f : Value → Value → Sem Value} {r r' : R2} (h : OpR X f r) (i : ∀ x y H Q, r' x y H Q → r x y H Q) : OpR X f r' := fun pins s σ H x y v u Q I rx ry q => h pins s σ H x y v u Q I rx ry (i _ _ _ _ q)
def qOp (r : Q2) (ta tb : QE) : QE := qBind ta fun x => qBind tb fun y _ M Q _ => r x y M Q
theorem low_op {K : PySem.W.Frag} {W : WX} {r : Q2} {ta tb : QE} {σ : St} {H : Hp} {Q : VK} (h : lowE K W (qOp r ta tb) σ H Q) : tOp (lowR2 K r) (lowE K W ta) (lowE K W tb) σ H Q := by
  obtain ⟨ρ, M, Qd, E, hs, hm, ht, hq, hx⟩ := h
  refine ⟨ρ, M, _, E, hs, hm, ht, fun v d H1 M1 e1 m1 r1 q1 => ?_, hx⟩
  refine ⟨ρ, M1, _, E, hs.ext e1, m1, q1, fun w f H2 M2 e2 m2 r2 q2 => ?_, hx.ext e1⟩
  exact ⟨d, f, M2, Qd, Rep.ext e2 _ _ r1, r2, m2, q2, fun z g H3 M3 e3 => hq z g H3 M3 ((e1.trans e2).trans e3)⟩
variable {a b c : Expr} {ta tb tc : QE}
theorem q_op {op : Operator} {r : Q2} (ho : OpQ X (binaryOp op) r) (ha : QPE X T W a ta) (hb : QPE X T W b tb) : QPE X T W (.BinOp a op b pos) (qOp r ta tb) := ⟨(tpe_op ho ha.pe hb.pe).impD fun _ _ _ h => low_op h⟩
theorem q_cmp {op : CmpOp} {r : Q2} (ho : OpQ X (compareOp op) r) (ha : QPE X T W a ta) (hb : QPE X T W b tb) (hm : behindInMarks op b = false := by first | exact nomark _ | with_unfolding_all rfl) : QPE X T W (.Compare a [op] [b] pos) (qOp r ta tb) := ⟨(tpe_cmpR ho ha.pe hb.pe hm).impD fun _ _ _ h => low_op h⟩
/-- as a test -/
def qTest (t : QE) : QT := qBind t fun x _ M Q _ => match x with
  | .bl k => Q k M
  | _ => False
theorem low_test {K : PySem.W.Frag} {W : WX} {t : QE} {t' : TE} {σ : St} {H : Hp} {Q : Bool → Hp → Prop} (i : ∀ σ H Q, lowE K W t σ H Q → t' σ H Q) (h : lowT K W (qTest t) σ H Q) : tTest t' σ H Q := by
  refine i _ _ _ (low_mono (low_bind (R := Rep K) h) fun v H' z => ?_)
  obtain ⟨d, r, q⟩ := z
  cases d with
  | bl k =>
    rw [Rep] at r
    exact ⟨k, r, low_ret (R := fun _ b c => b = c) rfl q⟩
  | _ => obtain ⟨_, _, _, _, _, _, z, _⟩ := q; exact z.elim
theorem t_cmp {op : CmpOp} {r : Q2} (ho : OpQ X (compareOp op) r) (ha : QPE X T W a ta) (hb : QPE X T W b tb) (hm : behindInMarks op b = false := by first | exact nomark _ | with_unfolding_all rfl) : QPT X T W (.Compare a [op] [b] pos) (qTest (qOp r ta tb)) :=
  ⟨(tpt_cmpR ho ha.pe hb.pe hm).impD fun _ _ _ h => low_test (fun _ _ _ z => low_op z) h⟩
/-- a chain -/
def qChain (r r' : Q2) (ta tb tc : QE) : QE := qBind ta fun x => qBind tb fun y => qBind (fun _ M Q _ => r x y M Q) fun z => match z with
  | .bl true => qBind tc fun w _ M Q _ => r' y w M Q
  | .bl false => fun _ M Q _ => Q (.bl false) M
  | _ => fun _ _ _ _ => False
theorem low_chain {K : PySem.W.Frag} {W : WX} {r r' : Q2} {σ : St} {H : Hp} {Q : VK} (h : lowE K W (qChain r r' ta tb tc) σ H Q) : tChain (lowR2 K r) (lowR2 K r') (lowE K W ta) (lowE K W tb) (lowE K W tc) σ H Q := by
  obtain ⟨ρ, M, Qd, E, hs, hm, ht, hq, hx⟩ := h
  refine ⟨ρ, M, _, E, hs, hm, ht, fun v d H1 M1 e1 m1 r1 q1 => ?_, hx⟩
  refine ⟨ρ, M1, _, E, hs.ext e1, m1, q1, fun w f H2 M2 e2 m2 r2 q2 => ?_, hx.ext e1⟩
  refine ⟨d, f, M2, _, Rep.ext e2 _ _ r1, r2, m2, q2, fun z g H3 M3 e3 m3 r3 q3 => ?_⟩
  cases g with
  | bl k =>
    rw [Rep] at r3
    refine ⟨k, r3, ?_⟩
    cases k with
    | true =>
      rw [if_pos rfl]
      refine ⟨ρ, M3, _, E, hs.ext ((e1.trans e2).trans e3), m3, q3, fun w' g H4 M4 e4 m4 r4 q4 => ?_, hx.ext ((e1.trans e2).trans e3)⟩
      exact ⟨f, g, M4, Qd, Rep.ext (e3.trans e4) _ _ r2, r4, m4, q4, fun z g H5 M5 e5 => hq z g H5 M5 ((((e1.trans e2).trans e3).trans e4).trans e5)⟩
    | false =>
      rw [if_neg Bool.false_ne_true]
      exact hq _ _ H3 M3 ((e1.trans e2).trans e3) m3 (by rw [Rep]) q3
  | _ => exact q3.elim
theorem q_chain {op op' : CmpOp} {r r' : Q2} (ho : OpQ X (compareOp op) r) (ho' : OpQ X (compareOp op') r') (ha : QPE X T W a ta) (hb : QPE X T W b tb) (hc : QPE X T W c tc)
    (hm : lastMarks [op, op'] [b, c] = false := by with_unfolding_all rfl) : QPE X T W (.Compare a [op, op'] [b, c] pos) (qChain r r' ta tb tc) := ⟨(tpe_chain ho ho' ha.pe hb.pe hc.pe hm).impD fun _ _ _ h => low_chain h⟩
theorem t_chain {op op' : CmpOp} {r r' : Q2} (ho : OpQ X (compareOp op) r) (ho' : OpQ X (compareOp op') r') (ha : QPE X T W a ta) (hb : QPE X T W b tb) (hc : QPE X T W c tc)
    (hm : lastMarks [op, op'] [b, c] = false := by with_unfolding_all rfl) : QPT X T W (.Compare a [op, op'] [b, c] pos) (qTest (qChain r r' ta tb tc)) :=
  ⟨(tpt_chain ho ho' ha.pe hb.pe hc.pe hm).impD fun _ _ _ h => low_test (fun _ _ _ z => low_chain z) h⟩
/-- one-place -/
def lowR1 (K : PySem.W.Frag) (r : Q1) : V → Hp → VK → Prop := fun x H Q => ∃ dx M Qd, Rep K H x dx ∧ RepM K H M ∧ r dx M Qd ∧ ∀ v d H' M', HExt H H' → RepM K H' M' → Rep K H' v d → Qd d M' → Q v H'
def UnQ (X : Cx) (f : Value → Sem Value) (r : Q1) : Prop := UnR X f (lowR1 X.K r)
def qUn (r : Q1) (ta : QE) : QE := qBind ta fun x _ M Q _ => r x M Q
theorem q_un {op : UnaryOp} {r : Q1} (ho : UnQ X (unaryOp op) r) (ha : QPE X T W a ta) : QPE X T W (.UnaryOp op a pos) (qUn r ta) := by
  refine ⟨(tpe_un ho ha.pe).impD fun σ H Q h => ?_⟩
  obtain ⟨ρ, M, Qd, E, hs, hm, ht, hq, hx⟩ := h
  refine ⟨ρ, M, _, E, hs, hm, ht, fun v d H1 M1 e1 m1 r1 q1 => ?_, hx⟩
  exact ⟨d, M1, Qd, r1, m1, q1, fun z g H3 M3 e3 => hq z g H3 M3 (e1.trans e3)⟩
def rNeg : Q1 := fun x M Q => match x with
  | .int i => Q (.int (-i)) M
  | _ => False
theorem oq_neg : UnQ X (unaryOp .USub) rNeg := by
  intro pins s σ H x v Q I rx h
  obtain ⟨dx, M, Qd, r1, m, q, k⟩ := h
  cases dx with
  | int i =>
    rw [Rep] at r1
    exact un_neg pins s σ H x v Q I rx ⟨i, r1, k _ _ H M (HExt.refl H) m (by rw [Rep]) q⟩
  | _ => exact (show False from q).elim

/-! ### and, or, not, if -/
def qNot (t : QT) : QT := qBind t fun b _ M Q _ => Q (!b) M
theorem t_not {t : QT} (ha : QPT X T W a t) : QPT X T W (.UnaryOp .Not a pos) (qNot t) := ⟨(tpt_not ha.pt).impD fun σ H Q h => low_mono (low_bind (R := fun _ b c => b = c) h) fun v H' z => by
  obtain ⟨d, rfl, q⟩ := z
  exact low_ret (R := fun _ b c => b = c) rfl q⟩
def qNotV (t : QE) : QE := qBind t fun x _ M Q _ => match x with
  | .bl k => Q (.bl (!k)) M
  | _ => False
theorem q_not (ha : QPE X T W a ta) : QPE X T W (.UnaryOp .Not a pos) (qNotV ta) := ⟨(tpe_not ha.pe).impD fun σ H Q h => low_mono (low_bind (R := Rep X.K) h) fun v H' z => by
  obtain ⟨d, r, q⟩ := z
  cases d with
  | bl k =>
    rw [Rep] at r
    exact ⟨k, r, low_ret (by rw [Rep]) q⟩
  | _ => obtain ⟨_, _, _, _, _, _, z, _⟩ := q; exact z.elim⟩
/-- a value of a bool as a test -/
theorem t_val {e : Expr} {t : QE} (h : QPE X T W e t) (he : ∀ whole, isTrue e X.env whole = (do let v ← whole; standAt e.pos; holding [v] (truthy v)) := by intro _; rfl) : QPT X T W e (qTest t) :=
  ⟨(tpt_val h.pe he).impD fun σ H Q h => low_test (fun _ _ _ z => z) h⟩
def qAnd (t u : QT) : QT := qBind t fun b => match b with
  | true => u
  | false => fun _ M Q _ => Q false M
def qOr (t u : QT) : QT := qBind t fun b => match b with
  | true => fun _ M Q _ => Q true M
  | false => u
variable {rest : List Expr} {tt uu : QT}
theorem w_and1 (ha : QPT X T W a tt) : QPW X T W (.BoolOp .And [a] pos) tt := ⟨tpw_and1 ha.pt⟩
theorem w_or1 (ha : QPT X T W a tt) : QPW X T W (.BoolOp .Or [a] pos) tt := ⟨tpw_or1 ha.pt⟩
theorem w_and (ha : QPT X T W a tt) (hb : QPW X T W (.BoolOp .And (b :: rest) pos) uu) : QPW X T W (.BoolOp .And (a :: b :: rest) pos) (qAnd tt uu) := ⟨(tpw_and ha.pt hb.pw).impD fun σ H Q h => low_mono (low_bind (R := fun _ b c => b = c) h) fun v H' z => by
  obtain ⟨d, rfl, q⟩ := z
  cases v with
  | true => rw [if_pos rfl]; exact q
  | false => rw [if_neg Bool.false_ne_true]; exact low_ret (R := fun _ b c => b = c) rfl q⟩
theorem w_or (ha : QPT X T W a tt) (hb : QPW X T W (.BoolOp .Or (b :: rest) pos) uu) : QPW X T W (.BoolOp .Or (a :: b :: rest) pos) (qOr tt uu) := ⟨(tpw_or ha.pt hb.pw).impD fun σ H Q h => low_mono (low_bind (R := fun _ b c => b = c) h) fun v H' z => by
  obtain ⟨d, rfl, q⟩ := z
  cases v with
  | true => rw [if_pos rfl]; exact low_ret (R := fun _ b c => b = c) rfl q
  | false => rw [if_neg Bool.false_ne_true]; exact q⟩
theorem t_w {e : Expr} (h : QPW X T W e tt) : QPT X T W e tt := ⟨h.pw.pt⟩
def qAndV (ta tb : QE) : QE := qBind ta fun x => match x with
  | .bl true => tb
  | .bl false => fun _ M Q _ => Q (.bl false) M
  | _ => fun _ _ _ _ => False
def qOrV (ta tb : QE) : QE := qBind ta fun x => match x with
  | .bl true => fun _ M Q _ => Q (.bl true) M
  | .bl false => tb
  | _ => fun _ _ _ _ => False
theorem q_one {op : BoolOp} (ha : QPE X T W a ta) : QPE X T W (.BoolOp op [a] pos) ta := ⟨tpe_one ha.pe⟩
theorem q_and (ha : QPE X T W a ta) (hb : QPE X T W (.BoolOp .And (b :: rest) pos) tb) : QPE X T W (.BoolOp .And (a :: b :: rest) pos) (qAndV ta tb) := ⟨(tpe_and ha.pe hb.pe).impD fun σ H Q h => low_mono (low_bind (R := Rep X.K) h) fun v H' z => by
  obtain ⟨d, r, q⟩ := z
  cases d with
  | bl k =>
    rw [Rep] at r
    refine ⟨k, r, ?_⟩
    cases k with
    | true => rw [if_pos rfl]; exact q
    | false => rw [if_neg Bool.false_ne_true]; exact low_ret (by rw [Rep]) q
  | _ => obtain ⟨_, _, _, _, _, _, z, _⟩ := q; exact z.elim⟩
theorem q_or (ha : QPE X T W a ta) (hb : QPE X T W (.BoolOp .Or (b :: rest) pos) tb) : QPE X T W (.BoolOp .Or (a :: b :: rest) pos) (qOrV ta tb) := ⟨(tpe_or ha.pe hb.pe).impD fun σ H Q h => low_mono (low_bind (R := Rep X.K) h) fun v H' z => by
  obtain ⟨d, r, q⟩ := z
  cases d with
  | bl k =>
    rw [Rep] at r
    refine ⟨k, r, ?_⟩
    cases k with
    | true => rw [if_pos rfl]; exact low_ret (by rw [Rep]) q
    | false => rw [if_neg Bool.false_ne_true]; exact q
  | _ => obtain ⟨_, _, _, _, _, _, z, _⟩ := q; exact z.elim⟩
def qIf (t : QT) (ta tb : QE) : QE := qBind t fun b => match b with
  | true => ta
  | false => tb
theorem q_if {c : Expr} (hc : QPT X T W c tt) (ha : QPE X T W a ta) (hb : QPE X T W b tb) : QPE X T W (.IfExp c a b pos) (qIf tt ta tb) := ⟨(tpe_ifExp hc.pt ha.pe hb.pe).impD fun σ H Q h => low_mono (low_bind (R := fun _ b c => b = c) h) fun v H' z => by
  obtain ⟨d, rfl, q⟩ := z
  cases v with
  | true => rw [if_pos rfl]; exact q
  | false => rw [if_neg Bool.false_ne_true]; exact q⟩

/-! ### argument lists, displays -/
def qaNil : QA := fun _ M Q _ => Q [] M
def qaCons (t : QE) (u : QA) : QA := qBind t fun x => qBind u fun xs _ M Q _ => Q (x :: xs) M
variable {es : List Expr} {u : QA}
theorem a_nil : QPA X T W [] qaNil := ⟨tpa_nil.impD fun σ H Q h => low_ret (R := Reps X.K) reps_nil h⟩
theorem a_cons (ha : QPE X T W a ta) (hr : QPA X T W es u) (hs : starEach (a :: es) X.env = (false, eval a X.env) :: starEach es X.env := by rfl) : QPA X T W (a :: es) (qaCons ta u) := by
  refine ⟨(tpa_cons ha.pe hr.pa hs).impD fun σ H Q h => ?_⟩
  obtain ⟨ρ, M, Qd, E, hs, hm, ht, hq, hx⟩ := h
  refine ⟨ρ, M, _, E, hs, hm, ht, fun v d H1 M1 e1 m1 r1 q1 => ?_, hx⟩
  refine ⟨ρ, M1, _, E, hs.ext e1, m1, q1, fun w f H2 M2 e2 m2 r2 q2 => ?_, hx.ext e1⟩
  exact hq _ _ H2 M2 (e1.trans e2) m2 (reps_cons (Rep.ext e2 _ _ r1) r2) q2
def qTup (t : QA) : QE := qBind t fun xs _ M Q _ => xs.length ≤ sizeLine ∧ Q (.tup xs) M
theorem q_tup {x1} (h : QPA X T W es u) : QPE X T W (.Tuple es x1 pos) (qTup u) := by
  refine ⟨(tpe_tup h.pa).impD fun σ H Q h => ?_⟩
  obtain ⟨ρ, M, Qd, E, hs, hm, ht, hq, hx⟩ := h
  refine ⟨ρ, M, _, E, hs, hm, ht, fun vs ds H1 M1 e1 m1 r1 q1 => ⟨by rw [r1.length]; exact q1.1, fun p hp => ?_⟩, hx⟩
  have e2 : HExt H1 (upd H1 p (.tup vs)) := HExt.new hp
  exact hq _ _ _ M1 (e1.trans e2) (m1.new hp) (by rw [Rep]; exact ⟨p, vs, rfl, SqT.of upd_same, Reps.ext e2 _ _ r1⟩) q1.2
def qLst (t : QA) : QE := qBind t fun xs _ M Q _ => xs.length ≤ sizeLine ∧ ∀ p, M p = none → Q (.ref p) (updM M p (.lst xs))
theorem q_lst (h : QPA X T W es u) : QPE X T W (.List es pos) (qLst u) := by
  refine ⟨(tpe_lst h.pa).impD fun σ H Q h => ?_⟩
  obtain ⟨ρ, M, Qd, E, hs, hm, ht, hq, hx⟩ := h
  refine ⟨ρ, M, _, E, hs, hm, ht, fun vs ds H1 M1 e1 m1 r1 q1 => ⟨by rw [r1.length]; exact q1.1, fun p hp => ?_⟩, hx⟩
  have e2 : HExt H1 (upd H1 p (.lst vs)) := HExt.new hp
  exact hq _ _ _ _ (e1.trans e2) (m1.put (u := .lst ds) hp ⟨vs, upd_same, Reps.ext e2 _ _ r1⟩) (by rw [Rep]) (q1.2 p (m1.free hp))
end
end DL
end

section
set_option Elab.async false
set_option linter.all false
set_option maxRecDepth 100000
set_option maxHeartbeats 2000000
namespace DL
open PySem PySem.Spec PyProof.Rows L2

/-! ### what the operators do with data -/
/-- a sum of ints, texts, tuples, lists -/
def rAdd : Q2 := fun x y M Q => match x, y with
  | .int i, .int j => Q (.int (i + j)) M
  | .str a, .str b => a.length + b.length ≤ sizeLine ∧ Q (.str (a ++ b)) M
  | .tup a, .tup b => a.length + b.length ≤ sizeLine ∧ Q (.tup (a ++ b)) M
  | .ref p, .ref q => match M p, M q with
    | some (.lst a), some (.lst b) => a.length + b.length ≤ sizeLine ∧ ∀ r, M r = none → Q (.ref r) (updM M r (.lst (a ++ b)))
    | _, _ => False
  | _, _ => False
theorem str_len (x : List Nat) : (⟨x.toArray⟩ : Str).length = x.length := by simp [Str.length]
theorem str_app (x y : List Nat) : (⟨x.toArray⟩ : Str) ++ ⟨y.toArray⟩ = ⟨(x ++ y).toArray⟩ := by
  refine TL.ext_tl ?_
  rw [TL.tl_append]
section
variable {X : Cx}
theorem oq_add : OpQ X (binaryOp .Add) rAdd := by
  intro pins s σ H x y v u Q I rx ry h
  obtain ⟨dx, dy, M, Qd, r1, r2, m, q, k⟩ := h
  unfold rAdd at q
  split at q
  · rename_i i j
    rw [Rep] at r1 r2
    exact op_add pins s σ H x y v u Q I rx ry ⟨i, j, r1, r2, k _ _ H M (HExt.refl H) m (by rw [Rep]) q⟩
  · rename_i a b
    rw [Rep] at r1 r2
    refine op_add_str pins s σ H x y v u Q I rx ry ⟨_, _, r1, r2, by rw [str_len, str_len]; exact q.1, ?_⟩
    exact k _ _ H M (HExt.refl H) m (by rw [Rep, str_app]) q.2
  · rename_i a b
    rw [Rep] at r1 r2
    obtain ⟨p, vs, e1, s1, t1⟩ := r1
    obtain ⟨p2, ws, e2, s2, t2⟩ := r2
    refine op_catA pins s σ H x y v u Q I rx ry ⟨p, p2, vs, ws, e1, e2, s1, s2, by rw [t1.length, t2.length]; exact q.1, fun hx => ?_, fun hx hy => ?_, fun hx hy r hr => ?_⟩
    · subst hx
      have ea : a = [] := List.eq_nil_of_length_eq_zero t1.length.symm
      subst ea
      exact k _ _ H M (HExt.refl H) m (by rw [Rep]; exact ⟨p2, ws, rfl, s2, t2⟩) q.2
    · subst hy
      have eb : b = [] := List.eq_nil_of_length_eq_zero t2.length.symm
      subst eb
      exact k _ _ H M (HExt.refl H) m (by rw [Rep, List.append_nil]; exact ⟨p, vs, rfl, s1, t1⟩) q.2
    · have e := HExt.new (o := .tup (vs ++ ws)) hr
      exact k _ _ _ M e (m.new hr) (by rw [Rep]; exact ⟨r, _, rfl, SqT.of upd_same, (Reps.ext e _ _ t1).append (Reps.ext e _ _ t2)⟩) q.2
  · rename_i p p2
    rw [Rep] at r1 r2
    split at q
    · rename_i a b e1 e2
      obtain ⟨vs, h1, t1⟩ := m _ _ e1
      obtain ⟨ws, h2, t2⟩ := m _ _ e2
      refine op_cat pins s σ H x y v u Q I rx ry ⟨p, p2, vs, ws, r1, r2, h1, h2, by rw [t1.length, t2.length]; exact q.1, fun r hr => ?_⟩
      have e := HExt.new (o := .lst (vs ++ ws)) hr
      exact k _ _ _ _ e (m.put (u := .lst (a ++ b)) hr ⟨_, upd_same, (Reps.ext e _ _ t1).append (Reps.ext e _ _ t2)⟩) (by rw [Rep]) (q.2 r (m.free hr))
    · exact q.elim
  · exact q.elim
/-- ints alone -/
def rInt (C : Int → Int → Prop) (g : Int → Int → D) : Q2 := fun x y M Q => match x, y with
  | .int i, .int j => C i j ∧ Q (g i j) M
  | _, _ => False
theorem oq_int {f : Value → Value → Sem Value} {C : Int → Int → Prop} {g : Int → Int → V} {g' : Int → Int → D} (h : OpR X f (rI C g)) (r : ∀ i j H, Rep X.K H (g i j) (g' i j)) : OpQ X f (rInt C g') := by
  intro pins s σ H x y v u Q I rx ry h'
  obtain ⟨dx, dy, M, Qd, r1, r2, m, q, k⟩ := h'
  unfold rInt at q
  split at q
  · rename_i i j
    rw [Rep] at r1 r2
    exact h pins s σ H x y v u Q I rx ry ⟨i, j, r1, r2, q.1, k _ _ H M (HExt.refl H) m (r i j H) q.2⟩
  · exact q.elim
def rInt0 (g : Int → Int → D) : Q2 := fun x y M Q => match x, y with
  | .int i, .int j => Q (g i j) M
  | _, _ => False
theorem oq_int0 {f : Value → Value → Sem Value} {g : Int → Int → V} {g' : Int → Int → D} (h : OpR X f (rI0 g)) (r : ∀ i j H, Rep X.K H (g i j) (g' i j)) : OpQ X f (rInt0 g') := by
  intro pins s σ H x y v u Q I rx ry h'
  obtain ⟨dx, dy, M, Qd, r1, r2, m, q, k⟩ := h'
  unfold rInt0 at q
  split at q
  · rename_i i j
    rw [Rep] at r1 r2
    exact h pins s σ H x y v u Q I rx ry ⟨i, j, r1, r2, k _ _ H M (HExt.refl H) m (r i j H) q⟩
  · exact q.elim
def rSub : Q2 := fun x y M Q => match x, y with
  | .int i, .int j => Q (.int (i - j)) M
  | _, _ => False
theorem oq_sub : OpQ X (binaryOp .Sub) rSub := oq_int0 op_sub fun i j H => by rw [Rep]
def rFdiv : Q2 := fun x y M Q => match x, y with
  | .int i, .int j => CDiv i j ∧ Q (.int (i / j)) M
  | _, _ => False
theorem oq_fdiv : OpQ X (binaryOp .FloorDiv) rFdiv := oq_int op_fdiv fun i j H => by rw [Rep]
def rMod : Q2 := fun x y M Q => match x, y with
  | .int i, .int j => 0 < j ∧ Q (.int (i % j)) M
  | _, _ => False
theorem oq_mod : OpQ X (binaryOp .Mod) rMod := oq_int op_mod fun i j H => by rw [Rep]
def rPow : Q2 := fun x y M Q => match x, y with
  | .int i, .int j => CPow i j ∧ Q (.int (i ^ j.toNat)) M
  | _, _ => False
theorem oq_pow : OpQ X (binaryOp .Pow) rPow := oq_int op_pow fun i j H => by rw [Rep]
def rLt : Q2 := fun x y M Q => match x, y with
  | .int i, .int j => Q (.bl (decide (i < j))) M
  | _, _ => False
theorem oq_lt : OpQ X (compareOp .Lt) rLt := oq_int0 op_lt fun i j H => by rw [Rep]
def rLe : Q2 := fun x y M Q => match x, y with
  | .int i, .int j => Q (.bl (decide (i ≤ j))) M
  | _, _ => False
theorem oq_le : OpQ X (compareOp .LtE) rLe := oq_int0 op_le fun i j H => by rw [Rep]
def rGt : Q2 := fun x y M Q => match x, y with
  | .int i, .int j => Q (.bl (decide (j < i))) M
  | _, _ => False
theorem oq_gt : OpQ X (compareOp .Gt) rGt := oq_int0 op_gt fun i j H => by rw [Rep]
def rGe : Q2 := fun x y M Q => match x, y with
  | .int i, .int j => Q (.bl (decide (j ≤ i))) M
  | _, _ => False
theorem oq_ge : OpQ X (compareOp .GtE) rGe := oq_int0 op_ge fun i j H => by rw [Rep]
/-- products: of ints; a text or a list so many times is not here -/
def rMul : Q2 := rInt CMul fun i j => .int (i * j)
theorem oq_mul : OpQ X (binaryOp .Mult) rMul := oq_int op_mul fun i j H => by rw [Rep]

/-! ### equality -/
def dEq : D → D → Option Bool
  | .non, .non => some true
  | .non, .int _ => some false
  | .int _, .non => some false
  | .non, .bl _ => some false
  | .bl _, .non => some false
  | .non, .str _ => some false
  | .str _, .non => some false
  | .int i, .int j => some (decide (i = j))
  | .bl i, .bl j => some (decide (i = j))
  | .str i, .str j => some (decide (i = j))
  | .int _, .str _ => some false
  | .str _, .int _ => some false
  | .bl _, .str _ => some false
  | .str _, .bl _ => some false
  | _, _ => none
def rEqD : Q2 := fun x y M Q => match dEq x y with
  | some b => Q (.bl b) M
  | none => False
def rNeD : Q2 := fun x y M Q => match dEq x y with
  | some b => Q (.bl (!b)) M
  | none => False
theorem str_inj {x y : List Nat} : (⟨x.toArray⟩ : Str) = ⟨y.toArray⟩ ↔ x = y := ⟨fun h => by
  have := congrArg TL.tl h
  exact this, fun h => by rw [h]⟩
theorem dEq_scal {K : PySem.W.Frag} {H : Hp} {x y : V} {dx dy : D} {b : Bool} (r1 : Rep K H x dx) (r2 : Rep K H y dy) (e : dEq dx dy = some b) : scal x y = true ∧ decide (x = y) = b := by
  cases dx <;> cases dy <;> simp only [dEq] at e <;> (try cases e) <;> ((try rw [Rep] at r1); (try rw [Rep] at r2); subst r1; subst r2; refine ⟨rfl, ?_⟩)
  all_goals first
    | rfl
    | (rw [Bool.eq_iff_iff]; simp only [decide_eq_true_eq, V.str.injEq, str_inj]; done)
    | (simp; done)
theorem oq_eq : OpQ X (compareOp .Eq) rEqD := by
  intro pins s σ H x y v u Q I rx ry h
  obtain ⟨dx, dy, M, Qd, r1, r2, m, q, k⟩ := h
  unfold rEqD at q
  split at q
  · rename_i b e
    obtain ⟨h1, h2⟩ := dEq_scal r1 r2 e
    exact op_eq pins s σ H x y v u Q I rx ry ⟨h1, by rw [h2]; exact k _ _ H M (HExt.refl H) m (by rw [Rep]) q⟩
  · exact q.elim
theorem oq_ne : OpQ X (compareOp .NotEq) rNeD := by
  intro pins s σ H x y v u Q I rx ry h
  obtain ⟨dx, dy, M, Qd, r1, r2, m, q, k⟩ := h
  unfold rNeD at q
  split at q
  · rename_i b e
    obtain ⟨h1, h2⟩ := dEq_scal r1 r2 e
    exact op_ne pins s σ H x y v u Q I rx ry ⟨h1, by rw [h2]; exact k _ _ H M (HExt.refl H) m (by rw [Rep]) q⟩
  · exact q.elim
/-- is None, is not None -/
def isNonD : D → Bool
  | .non => true
  | _ => false
def rIsN : Q2 := fun x y M Q => match y with
  | .non => Q (.bl (isNonD x)) M
  | _ => False
def rIsNotN : Q2 := fun x y M Q => match y with
  | .non => Q (.bl (!isNonD x)) M
  | _ => False
theorem isNon_of {K : PySem.W.Frag} {H : Hp} {x : V} {d : D} (r : Rep K H x d) : decide (x = .non) = isNonD d := by
  cases d with
  | tup xs => rw [Rep] at r; obtain ⟨a, vs, rfl, _⟩ := r; simp [isNonD]
  | fl xs => rw [Rep] at r; obtain ⟨a, vs, rfl, _⟩ := r; simp [isNonD]
  | exc C a dd ns xs => rw [Rep] at r; obtain ⟨rfl, _⟩ := r; simp [isNonD]
  | _ => rw [Rep] at r; subst r; simp [isNonD]
theorem oq_isN : OpQ X (compareOp .Is) rIsN := by
  intro pins s σ H x y v u Q I rx ry h
  obtain ⟨dx, dy, M, Qd, r1, r2, m, q, k⟩ := h
  cases dy with
  | non =>
    rw [Rep] at r2
    exact op_isN pins s σ H x y v u Q I rx ry ⟨r2, by rw [isNon_of r1]; exact k _ _ H M (HExt.refl H) m (by rw [Rep]) q⟩
  | _ => exact (show False from q).elim
theorem oq_isNotN : OpQ X (compareOp .IsNot) rIsNotN := by
  intro pins s σ H x y v u Q I rx ry h
  obtain ⟨dx, dy, M, Qd, r1, r2, m, q, k⟩ := h
  cases dy with
  | non =>
    rw [Rep] at r2
    exact op_notN pins s σ H x y v u Q I rx ry ⟨r2, by rw [isNon_of r1]; exact k _ _ H M (HExt.refl H) m (by rw [Rep]) q⟩
  | _ => exact (show False from q).elim
/-! ### in -/
def flatD : D → Bool
  | .non => true
  | .bl _ => true
  | .int _ => true
  | .str _ => true
  | _ => false
def eqF : D → D → Bool
  | .non, .non => true
  | .bl a, .bl b => a == b
  | .bl a, .int b => (if a then 1 else 0) == b
  | .int a, .bl b => a == (if b then 1 else 0)
  | .int a, .int b => a == b
  | .str a, .str b => decide (a = b)
  | _, _ => false
def inF (x : D) (xs : List D) : Bool := xs.any fun y => eqF y x
theorem flat_of {K : PySem.W.Frag} {H : Hp} {x : V} {d : D} (r : Rep K H x d) (f : flatD d = true) : flatV x = true := by
  cases d <;> first
    | exact absurd (show false = true from f) Bool.false_ne_true
    | (rw [Rep] at r; subst r; rfl)
theorem flats_of {K : PySem.W.Frag} {H : Hp} : ∀ {ds : List D} {vs : List V}, Reps K H vs ds → ds.all flatD = true → vs.all flatV = true
  | [], vs, r, _ => by rw [reps_inv0 r]; rfl
  | d :: ds, vs, r, f => by
    obtain ⟨v, w, rfl, h1, h2⟩ := reps_inv r
    rw [List.all_cons, Bool.and_eq_true] at f ⊢
    exact ⟨flat_of h1 f.1, flats_of h2 f.2⟩
theorem eqF_of {K : PySem.W.Frag} {H : Hp} {x y : V} {dx dy : D} (r1 : Rep K H x dx) (r2 : Rep K H y dy) (f1 : flatD dx = true) (f2 : flatD dy = true) : eqV x y = eqF dx dy := by
  cases dx <;> first
    | exact absurd (show false = true from f1) Bool.false_ne_true
    | (cases dy <;> first
        | exact absurd (show false = true from f2) Bool.false_ne_true
        | ((try rw [Rep] at r1); (try rw [Rep] at r2); subst r1; subst r2; first | rfl | (show (_ == _) = decide _; rw [Bool.eq_iff_iff, beq_iff_eq, decide_eq_true_eq, str_inj])))
theorem inF_of {K : PySem.W.Frag} {H : Hp} {x : V} {dx : D} (r1 : Rep K H x dx) (f1 : flatD dx = true) : ∀ {ds : List D} {vs : List V}, Reps K H vs ds → ds.all flatD = true → inV x vs = inF dx ds
  | [], vs, r, _ => by rw [reps_inv0 r]; rfl
  | d :: ds, vs, r, f => by
    obtain ⟨v, w, rfl, h1, h2⟩ := reps_inv r
    rw [List.all_cons, Bool.and_eq_true] at f
    have ih := inF_of r1 f1 h2 f.2
    unfold inV inF at ih ⊢
    rw [List.any_cons, List.any_cons, eqF_of h1 r1 f.1 f1, ih]
/-- one sign in a text; a flat thing in a tuple, a list of flat things -/
def rIn (neg : Bool) : Q2 := fun x y M Q => match y with
  | .str z => match x with
    | .str [c] => Q (.bl (if neg then !decide (c ∈ z) else decide (c ∈ z))) M
    | _ => False
  | .tup ys => flatD x = true ∧ ys.all flatD = true ∧ Q (.bl (if neg then !inF x ys else inF x ys)) M
  | .ref p => match M p with
    | some (.lst ys) => flatD x = true ∧ ys.all flatD = true ∧ Q (.bl (if neg then !inF x ys else inF x ys)) M
    | _ => False
  | _ => False
theorem oq_inG {neg : Bool} {op : CmpOp} (h1 : OpR X (compareOp op) (fun x y H Q => ∃ (c : Nat) (z : Str), x = .str ⟨#[c]⟩ ∧ y = .str z ∧ Q (.bl (if neg then !decide (c ∈ z.cps.toList) else decide (c ∈ z.cps.toList))) H))
    (h2 : OpR X (compareOp op) (L2.rIn X.K neg)) : OpQ X (compareOp op) (rIn neg) := by
  intro pins s σ H x y v u Q I rx ry h
  obtain ⟨dx, dy, M, Qd, r1, r2, m, q, k⟩ := h
  unfold rIn at q
  split at q
  · split at q
    · rw [Rep] at r1 r2
      exact h1 pins s σ H x y v u Q I rx ry ⟨_, _, r1, r2, k _ _ H M (HExt.refl H) m (by rw [Rep]) q⟩
    · exact q.elim
  · rename_i ys
    rw [Rep] at r2
    obtain ⟨p, vs, e2, s2, t2⟩ := r2
    refine h2 pins s σ H x y v u Q I rx ry ⟨p, vs, e2, .inr s2, flat_of r1 q.1, flats_of t2 q.2.1, ?_⟩
    rw [inF_of r1 q.1 t2 q.2.1]
    exact k _ _ H M (HExt.refl H) m (by rw [Rep]) q.2.2
  · rename_i p
    rw [Rep] at r2
    split at q
    · rename_i ys e
      obtain ⟨vs, hp, t2⟩ := m _ _ e
      refine h2 pins s σ H x y v u Q I rx ry ⟨p, vs, r2, .inl (SqL.of hp), flat_of r1 q.1, flats_of t2 q.2.1, ?_⟩
      rw [inF_of r1 q.1 t2 q.2.1]
      exact k _ _ H M (HExt.refl H) m (by rw [Rep]) q.2.2
    · exact q.elim
  · exact q.elim
theorem oq_in : OpQ X (compareOp .In) (rIn false) := oq_inG op_in_sign op_in_seq
theorem oq_notIn : OpQ X (compareOp .NotIn) (rIn true) := oq_inG op_notIn_sign op_notIn_seq

/-! ### items and slices -/
def rIx : Q2 := fun x y M Q => match y with
  | .int i => match x with
    | .str z => z.length ≤ sizeLine ∧ match atI z i with
      | some c => Q (.str [c]) M
      | none => False
    | .tup xs => match atI xs i with
      | some d => Q d M
      | none => False
    | .fl xs => match atI xs i with
      | some d => Q d M
      | none => False
    | .ref p => match M p with
      | some (.lst xs) => match atI xs i with
        | some d => Q d M
        | none => False
      | _ => False
    | _ => False
  | _ => False
theorem atI_reps {K : PySem.W.Frag} {H : Hp} {ds : List D} {vs : List V} {i : Int} {d : D} (r : Reps K H vs ds) (e : atI ds i = some d) : ∃ v, atI vs i = some v ∧ Rep K H v d := by
  unfold atI at e ⊢
  rw [r.length]
  cases q : ixN ds.length i with
  | none => rw [q] at e; cases e
  | some j =>
    rw [q] at e
    exact r.get e
theorem low_ix {pins : List (Addr × Obj)} {s : Shared} {σ : L2.St} {H : Hp} {x y : V} {v u : Value} {Q : VK} {value slice : Expr} (I : Inv X pins σ H s) (rx : RelV x v) (ry : RelV y u) (h : lowR2 X.K rIx x y H Q)
    (hs : subscripted slice false v u = operate [v, u] (getItem v u)) : wpAny (model X.prog X.w) X.A (subscriptTail value slice v u) (EP X pins σ Q) X.xe s := by
  obtain ⟨dx, dy, M, Qd, r1, r2, m, q, k⟩ := h
  unfold rIx at q
  split at q
  · rename_i i
    rw [Rep] at r2
    split at q
    · rename_i z
      rw [Rep] at r1
      obtain ⟨hz, q⟩ := q
      split at q
      · rename_i c e
        refine ix_str value slice pins s σ H x y v u Q I rx ry ⟨_, i, c, r1, r2, by rw [str_len]; exact hz, e, ?_⟩ hs
        exact k _ _ H M (HExt.refl H) m (by rw [Rep]) q
      · exact q.elim
    · rename_i xs
      rw [Rep] at r1
      obtain ⟨p, vs, e1, s1, t1⟩ := r1
      split at q
      · rename_i d e
        obtain ⟨w, hw, rw'⟩ := atI_reps t1 e
        exact ix_tup value slice pins s σ H x y v u Q I rx ry ⟨p, vs, i, w, e1, r2, s1, hw, k _ _ H M (HExt.refl H) m rw' q⟩ hs
      · exact q.elim
    · rename_i xs
      rw [Rep] at r1
      obtain ⟨p, vs, e1, s1, t1⟩ := r1
      split at q
      · rename_i d e
        obtain ⟨w, hw, rw'⟩ := atI_reps t1 e
        exact ix_list value slice pins s σ H x y v u Q I rx ry ⟨p, vs, i, w, e1, r2, flL s1, hw, k _ _ H M (HExt.refl H) m rw' q⟩ hs
      · exact q.elim
    · rename_i p
      rw [Rep] at r1
      split at q
      · rename_i xs e1
        obtain ⟨vs, s1, t1⟩ := m _ _ e1
        split at q
        · rename_i d e
          obtain ⟨w, hw, rw'⟩ := atI_reps t1 e
          exact ix_list value slice pins s σ H x y v u Q I rx ry ⟨p, vs, i, w, r1, r2, SqL.of s1, hw, k _ _ H M (HExt.refl H) m rw' q⟩ hs
        · exact q.elim
      · exact q.elim
    · exact q.elim
  · exact q.elim
variable {T : Nat} {W : WX} {a b c e : Expr} {ta tb tc : QE} {pos p2 : Pos}
theorem q_ix (ha : QPE X T W a ta) (hb : QPE X T W b tb) (hs : PlainIx b := by intro _ _; rfl) : QPE X T W (.Subscript a b pos) (qOp rIx ta tb) :=
  ⟨(tpe_ix (r := lowR2 X.K rIx) (fun value slice pins s σ H x y v u Q I rx ry h hs => low_ix I rx ry h hs) ha.pe hb.pe hs).impD fun _ _ _ h => low_op h⟩
/-! slices -/
abbrev QO := PSt → Mp → (Option Int → Mp → Prop) → QX → Prop
structure QPO (X : Cx) (T : Nat) (W : WX) (e : Option Expr) (t : QO) : Prop where
  po : TPO X T e (low X.K W (fun _ (b c : Option Int) => b = c) t)
theorem _root_.L2.PO.impD {X : Cx} {e : Option Expr} {t t' : TO} (h : PO X e t) (i : ∀ σ H Q, t' σ H Q → t σ H Q) : PO X e t' := ⟨fun pins s σ H Q I q => h.run pins s σ H Q I (i _ _ _ q)⟩
def qoNone : QO := fun _ M Q _ => Q none M
def qoSome (t : QE) : QO := qBind t fun x _ M Q _ => match x with
  | .int i => Q (some i) M
  | _ => False
theorem o_none : QPO X T W none qoNone := ⟨tpo_none.impD fun σ H Q h => low_ret (R := fun _ b c => b = c) rfl h⟩
theorem o_some (h : QPE X T W e ta) : QPO X T W (some e) (qoSome ta) := ⟨(tpo_some h.pe).impD fun σ H Q h => low_mono (low_bind (R := Rep X.K) h) fun v H' z => by
  obtain ⟨d, r, q⟩ := z
  cases d with
  | int i =>
    rw [Rep] at r
    exact ⟨i, r, low_ret (R := fun _ b c => b = c) rfl q⟩
  | _ => obtain ⟨_, _, _, _, _, _, z, _⟩ := q; exact z.elim⟩
def cut {α : Type} (xs : List α) (lo hi : Option Int) : List α := (xs.drop (HT.sIx xs.length 0 lo)).take (HT.sIx xs.length xs.length hi - HT.sIx xs.length 0 lo)
theorem Reps.cut {K : PySem.W.Frag} {H : Hp} {ds : List D} {vs : List V} (r : Reps K H vs ds) (lo hi : Option Int) : Reps K H (cutV vs lo hi) (cut ds lo hi) := by
  unfold cutV DL.cut
  rw [r.length]
  exact (r.drop _).take _
theorem cutS_tl (z : Str) (lo hi : Option Int) : (cutS z lo hi) = ⟨(cut z.cps.toList lo hi).toArray⟩ := by
  unfold cutS cut
  have h : z.length = z.cps.toList.length := by simp [Str.length]
  first
    | rfl
    | (rw [h])
def rSl (x : D) (lo hi : Option Int) (M : Mp) (Q : QK) : Prop := match x with
  | .str z => z.length ≤ sizeLine ∧ Q (.str (cut z lo hi)) M
  | .tup xs => Q (.tup (cut xs lo hi)) M
  | .fl xs => ∀ p, M p = none → Q (.ref p) (updM M p (.lst (cut xs lo hi)))
  | .ref a => match M a with
    | some (.lst xs) => ∀ p, M p = none → Q (.ref p) (updM M p (.lst (cut xs lo hi)))
    | _ => False
  | _ => False
def qSl (ta : QE) (tl th : QO) : QE := qBind ta fun x => qBind tl fun lo => qBind th fun hi _ M Q _ => rSl x lo hi M Q
theorem cut_whole {α : Type} {xs : List α} {lo hi : Option Int} (h : HT.sIx xs.length 0 lo = 0 ∧ HT.sIx xs.length xs.length hi = xs.length) : cut xs lo hi = xs := by
  unfold cut
  rw [h.1, h.2, List.drop_zero, Nat.sub_zero, List.take_length]
def lowSl (K : PySem.W.Frag) : V → Option Int → Option Int → Hp → VK → Prop := fun x lo hi H Q => ∃ dx M Qd, Rep K H x dx ∧ RepM K H M ∧ rSl dx lo hi M Qd ∧ ∀ v d H' M', HExt H H' → RepM K H' M' → Rep K H' v d → Qd d M' → Q v H'
theorem sl_low : SlR X (lowSl X.K) := by
  intro pins s σ H x v vl vu lo hi sl Q I rx hs pl pu h
  obtain ⟨dx, M, Qd, r1, m, q, k⟩ := h
  unfold rSl at q
  split at q
  · rename_i z
    rw [Rep] at r1
    refine sl_str pins s σ H x v vl vu lo hi sl Q I rx hs pl pu ⟨_, r1, by rw [str_len]; exact q.1, ?_⟩
    exact k _ _ H M (HExt.refl H) m (by rw [Rep, cutS_tl]) q.2
  · rename_i xs
    rw [Rep] at r1
    obtain ⟨p, vs, e1, s1, t1⟩ := r1
    refine sl_tupA pins s σ H x v vl vu lo hi sl Q I rx hs pl pu ⟨p, vs, e1, s1, fun hw => ?_, fun _ r hr => ?_⟩
    · rw [t1.length] at hw
      rw [cut_whole hw] at q
      exact k _ _ H M (HExt.refl H) m (by rw [Rep]; exact ⟨p, vs, rfl, s1, t1⟩) q
    · have e := HExt.new (o := .tup (cutV vs lo hi)) hr
      exact k _ _ _ M e (m.new hr) (by rw [Rep]; exact ⟨r, _, rfl, SqT.of upd_same, Reps.ext e _ _ (t1.cut lo hi)⟩) q
  · rename_i xs
    rw [Rep] at r1
    obtain ⟨p, vs, e1, s1, t1⟩ := r1
    refine sl_list pins s σ H x v vl vu lo hi sl Q I rx hs pl pu ⟨p, vs, e1, flL s1, fun r hr => ?_⟩
    have e := HExt.new (o := .lst (cutV vs lo hi)) hr
    exact k _ _ _ _ e (m.put (u := .lst (cut xs lo hi)) hr ⟨_, upd_same, Reps.ext e _ _ (t1.cut lo hi)⟩) (by rw [Rep]) (q r (m.free hr))
  · rename_i p
    rw [Rep] at r1
    split at q
    · rename_i xs e1
      obtain ⟨vs, s1, t1⟩ := m _ _ e1
      refine sl_list pins s σ H x v vl vu lo hi sl Q I rx hs pl pu ⟨p, vs, r1, SqL.of s1, fun r hr => ?_⟩
      have e := HExt.new (o := .lst (cutV vs lo hi)) hr
      exact k _ _ _ _ e (m.put (u := .lst (cut xs lo hi)) hr ⟨_, upd_same, Reps.ext e _ _ (t1.cut lo hi)⟩) (by rw [Rep]) (q r (m.free hr))
    · exact q.elim
  · exact q.elim
theorem q_slice {lo hi : Option Expr} {tl th : QO} (ha : QPE X T W a ta) (hl : QPO X T W lo tl) (hu : QPO X T W hi th) : QPE X T W (.Subscript a (.Slice lo hi none p2) pos) (qSl ta tl th) := by
  refine ⟨(tpe_slice sl_low ha.pe hl.po hu.po).impD fun σ H Q h => ?_⟩
  obtain ⟨ρ, M, Qd, E, hs, hm, ht, hq, hx⟩ := h
  refine ⟨ρ, M, _, E, hs, hm, ht, fun v d H1 M1 e1 m1 r1 q1 => ?_, hx⟩
  refine ⟨ρ, M1, _, E, hs.ext e1, m1, q1, fun l l' H2 M2 e2 m2 r2 q2 => ?_, hx.ext e1⟩
  refine ⟨ρ, M2, _, E, hs.ext (e1.trans e2), m2, q2, fun u u' H3 M3 e3 m3 r3 q3 => ?_, hx.ext (e1.trans e2)⟩
  subst r2
  subst r3
  exact ⟨d, M3, Qd, Rep.ext (e2.trans e3) _ _ r1, m3, q3, fun z g H4 M4 e4 => hq z g H4 M4 (((e1.trans e2).trans e3).trans e4)⟩
end
end DL
end

section
set_option Elab.async false
set_option linter.all false
set_option maxRecDepth 100000
set_option maxHeartbeats 2000000
namespace DL
open PySem PySem.Spec PyProof.Rows L2

theorem parts2 {v w : V} {us : List Value} (r : Vals [v, w] us) : ∃ u1 u2, us = [u1, u2] ∧ RelV v u1 ∧ RelV w u2 := by
  obtain ⟨u1, rest, rfl, p, r⟩ : ∃ u1 rest, us = u1 :: rest ∧ RelV v u1 ∧ Vals [w] rest := by
    cases r with
    | cons p q => exact ⟨_, _, rfl, p, q⟩
  obtain ⟨u2, rest, rfl, q, r⟩ : ∃ u2 r2, rest = u2 :: r2 ∧ RelV w u2 ∧ Vals [] r2 := by
    cases r with
    | cons p q => exact ⟨_, _, rfl, p, q⟩
  cases r
  exact ⟨u1, u2, rfl, p, q⟩
/-- two names at once, with the tokens -/
theorem tps_par {X : Cx} {T : Nat} {i j : Nat} {x y : Str} {a b : Expr} {ta : TA} {px py pt pos : Pos} {kt k2 pt2} (hc : X.calm = true) (hN : X.N.Nodup) (hi : X.N[i]? = some x) (hj : X.N[j]? = some y) (hij : i ≠ j)
    (hx : X.env.scope.names.lookup x = some .local) (hy : X.env.scope.names.lookup y = some .local) (ha : TPA X T [a, b] ta)
    (hw : swappedStores [.Tuple [.Name x px, .Name y py] kt pt] (.Tuple [a, b] k2 pt2) X.env = pure (some [x, y]))
    (hs : swapsWithSole [.Tuple [.Name x px, .Name y py] kt pt] (.Tuple [a, b] k2 pt2) pos.line X.env = pure false) :
    TPS X T (.Assign [.Tuple [.Name x px, .Name y py] kt pt] (.Tuple [a, b] k2 pt2) pos) (tPar i j ta) := ⟨fun pins s σ H D I k h => by
  rw [exec_Assign_arm]
  refine wpAny_bind (wpAny_standAt ?_)
  rw [hs]
  refine wpAny_bind (wpAny_pure ?_)
  rw [if_neg (by decide)]
  refine wpAny_bind (Tuple_ (thn (ha.run _ pins s σ H _ I k h) fun us s1 z => ?_))
  obtain ⟨vs, H1, I1, r1, v, w, e1, q1⟩ := z
  subst e1
  obtain ⟨u1, u2, rfl, rv, rw'⟩ := parts2 r1
  refine wpAny_newObj_type ?_ (by show 2 ≤ sizeLine; decide)
  have I2 : Inv X pins σ H1 { s1 with heap := s1.heap.push { cls := .type "tuple", data := .seq [u1, u2].toArray } } := I1.kept (t' := s1.toks) fun b o e => Heap.get?_push_of_some _ e
  rw [hw]
  refine wpAny_bind (wpAny_pure ?_)
  show wpAny (model X.prog X.w) X.A (do rule "assign.swapped-stores"; let items ← unpackItems (.ref s1.heap.objs.size) 2 none; assignInOrder [fun v => bindName X.env y v, fun v => bindName X.env x v] items.reverse; pure Flow.next) _ _ _
  refine wpAny_bind (wpAny_rule (wpAny_bind (unpackItems_tuple (items := #[u1, u2]) (I.ok.hd hc) (IsTup.new s1.heap _) fun h' hx' => ?_)))
  have I3 := I2.kept (h' := h') (t' := s1.toks) fun b o e => hx' b o (Nat.ne_of_lt (Heap.lt_size e)) e
  refine wpAny_bind (show wpAny _ _ (assignInOrder [fun v => bindName X.env y v, fun v => bindName X.env x v] [u2, u1]) _ _ _ from assignInOrder_cons (wpAny_bindName (store_ok I3 hN hj (.inl hy) rw' (fun s2 I4 => ?_) (.inr hy))))
  refine assignInOrder_cons (wpAny_bindName (store_ok I4 hN hi (.inl hx) rv (fun s3 I5 => assignInOrder_nil (wpAny_pure ?_)) (.inr hx)))
  rw [List.set_comm _ _ (Ne.symm hij)] at I5
  exact ⟨_, H1, I5, q1⟩⟩
/-! ### statements -/
structure QB where
  nx : PSt → Mp → Prop
  rt : QK
  ex : PSt → QX
  bk : PSt → Mp → Prop := fun _ _ => False
  ct : PSt → Mp → Prop := fun _ _ => False
abbrev QS := QB → PSt → Mp → Prop
/-- the data's ends are good for the ends of the layer below -/
structure OkB (K : PySem.W.Frag) (W : WX) (D : Ends) (H : Hp) (B : QB) : Prop where
  nx : ∀ σ' ρ' H' M', HExt H H' → RepS K H' σ' ρ' → RepM K H' M' → B.nx ρ' M' → D.nx σ' H'
  bk : ∀ σ' ρ' H' M', HExt H H' → RepS K H' σ' ρ' → RepM K H' M' → B.bk ρ' M' → D.bk σ' H'
  ct : ∀ σ' ρ' H' M', HExt H H' → RepS K H' σ' ρ' → RepM K H' M' → B.ct ρ' M' → D.ct σ' H'
  rt : ∀ v d H' M', HExt H H' → RepM K H' M' → Rep K H' v d → B.rt d M' → D.rt v H'
  ex : ∀ C dd fs σ' ρ' H' M', HExt H H' → RepS K H' σ' ρ' → RepM K H' M' → RepX K H' dd fs → B.ex ρ' C fs M' → W (.ref C) dd σ' H'
theorem OkB.ext {K : PySem.W.Frag} {W : WX} {D : Ends} {H H' : Hp} {B : QB} (e : HExt H H') (h : OkB K W D H B) : OkB K W D H' B :=
  ⟨fun _ _ _ _ e2 => h.nx _ _ _ _ (e.trans e2), fun _ _ _ _ e2 => h.bk _ _ _ _ (e.trans e2), fun _ _ _ _ e2 => h.ct _ _ _ _ (e.trans e2), fun _ _ _ _ e2 => h.rt _ _ _ _ (e.trans e2), fun _ _ _ _ _ _ _ e2 => h.ex _ _ _ _ _ _ _ (e.trans e2)⟩
theorem OkB.okX {K : PySem.W.Frag} {W : WX} {D : Ends} {H : Hp} {B : QB} {σ : L2.St} {ρ : PSt} (h : OkB K W D H B) (s : RepS K H σ ρ) : okX K W σ H (B.ex ρ) := fun C dd fs H' M' e m r q => h.ex C dd fs σ ρ H' M' e (s.ext e) m r q
def lowS (K : PySem.W.Frag) (W : WX) (t : QS) : TS := fun D σ H => ∃ ρ M B, RepS K H σ ρ ∧ RepM K H M ∧ t B ρ M ∧ OkB K W D H B
structure QPS (X : Cx) (T : Nat) (W : WX) (st : Stmt) (t : QS) : Prop where
  ps : TPS X T st (lowS X.K W t)
structure QPSs (X : Cx) (T : Nat) (W : WX) (sts : List Stmt) (t : QS) : Prop where
  ps : TPSs X T sts (lowS X.K W t)
theorem _root_.L2.PS.impD {X : Cx} {e : Stmt} {t t' : TS} (h : PS X e t) (i : ∀ D σ H, t' D σ H → t D σ H) : PS X e t' := ⟨fun pins s σ H Q I q => h.run pins s σ H Q I (i _ _ _ q)⟩
theorem _root_.L2.PSs.impD {X : Cx} {e : List Stmt} {t t' : TS} (h : PSs X e t) (i : ∀ D σ H, t' D σ H → t D σ H) : PSs X e t' := ⟨fun pins s σ H Q I q => h.run pins s σ H Q I (i _ _ _ q)⟩
/-- an expression ahead of what is done with its value -/
theorem low_es {K : PySem.W.Frag} {W : WX} {α γ : Type} {R : Hp → γ → α → Prop} {t : PSt → Mp → (α → Mp → Prop) → QX → Prop} {k : α → QS} {D : Ends} {σ : L2.St} {H : Hp}
    (h : lowS K W (fun B ρ M => t ρ M (fun x M1 => k x B ρ M1) (B.ex ρ)) D σ H) : low K W R t σ H (fun v H1 => ∃ d, R H1 v d ∧ HExt H H1 ∧ lowS K W (k d) D σ H1) := by
  obtain ⟨ρ, M, B, hs, hm, ht, ok⟩ := h
  exact ⟨ρ, M, _, B.ex ρ, hs, hm, ht, fun v d H' M' e m r q => ⟨d, r, e, ρ, M', B, hs.ext e, m, q, ok.ext e⟩, ok.okX hs⟩
section
variable {X : Cx} {T : Nat} {W : WX} {st₀ : Stmt} {rest : List Stmt} {t u : QS} {e : Expr} {te : QE} {pos : Pos}
def qNext : QS := fun B ρ M => B.nx ρ M
def qSeq (t u : QS) : QS := fun B ρ M => t { B with nx := fun ρ' M' => u B ρ' M' } ρ M
theorem ss_nil : QPSs X T W [] qNext := ⟨tpss_nil.impD fun D σ H h => by
  obtain ⟨ρ, M, B, hs, hm, ht, ok⟩ := h
  exact ok.nx σ ρ H M (HExt.refl H) hs hm ht⟩
theorem ss_cons (h1 : QPS X T W st₀ t) (h2 : QPSs X T W rest u) : QPSs X T W (st₀ :: rest) (qSeq t u) := ⟨(tpss_cons h1.ps h2.ps).impD fun D σ H h => by
  obtain ⟨ρ, M, B, hs, hm, ht, ok⟩ := h
  exact ⟨ρ, M, _, hs, hm, ht, ⟨fun σ' ρ' H' M' e s m q => ⟨ρ', M', B, s, m, q, ok.ext e⟩, ok.bk, ok.ct, ok.rt, ok.ex⟩⟩⟩
theorem ss_one (h1 : QPS X T W st₀ t) : QPSs X T W [st₀] t := ⟨tpss_one h1.ps⟩
theorem s_pass : QPS X T W (.Pass pos) qNext := ⟨(TPS.of ps_pass).impD fun D σ H h => by
  obtain ⟨ρ, M, B, hs, hm, ht, ok⟩ := h
  exact ok.nx σ ρ H M (HExt.refl H) hs hm ht⟩
def qBreak : QS := fun B ρ M => B.bk ρ M
theorem s_break : QPS X T W (.Break pos) qBreak := ⟨(TPS.of ps_break).impD fun D σ H h => by
  obtain ⟨ρ, M, B, hs, hm, ht, ok⟩ := h
  exact ok.bk σ ρ H M (HExt.refl H) hs hm ht⟩
def qCont : QS := fun B ρ M => B.ct ρ M
theorem s_continue : QPS X T W (.Continue pos) qCont := ⟨(TPS.of ps_continue).impD fun D σ H h => by
  obtain ⟨ρ, M, B, hs, hm, ht, ok⟩ := h
  exact ok.ct σ ρ H M (HExt.refl H) hs hm ht⟩
def qDrop (te : QE) : QS := fun B ρ M => te ρ M (fun _ M1 => B.nx ρ M1) (B.ex ρ)
theorem s_expr (he : QPE X T W e te) (hs : swapsWith e none pos.line X.env = pure false := by rfl) : QPS X T W (.Expr e pos) (qDrop te) := ⟨(tps_expr he.pe hs).impD fun D σ H h =>
  low_mono (low_es (R := Rep X.K) (k := fun _ B ρ M => B.nx ρ M) h) fun v H' z => by
    obtain ⟨d, r, _, ρ, M, B, hs, hm, ht, ok⟩ := z
    exact ok.nx σ ρ H' M (HExt.refl H') hs hm ht⟩
def qRet (te : QE) : QS := fun B ρ M => te ρ M (fun x M1 => B.rt x M1) (B.ex ρ)
theorem s_ret (he : QPE X T W e te) : QPS X T W (.Return (some e) pos) (qRet te) := ⟨(tps_ret he.pe).impD fun D σ H h =>
  low_mono (low_es (R := Rep X.K) (k := fun x B ρ M => B.rt x M) h) fun v H' z => by
    obtain ⟨d, r, _, ρ, M, B, hs, hm, ht, ok⟩ := z
    exact ok.rt v d H' M (HExt.refl H') hm r ht⟩
def qRetN : QS := fun B _ M => B.rt .non M
theorem s_retN : QPS X T W (.Return none pos) qRetN := ⟨(TPS.of ps_retN).impD fun D σ H h => by
  obtain ⟨ρ, M, B, hs, hm, ht, ok⟩ := h
  exact ok.rt _ .non H M (HExt.refl H) hm (by rw [Rep]) ht⟩
def pick2 (t u : QS) : Bool → QS
  | true => t
  | false => u
def qIfS (c : QT) (t u : QS) : QS := fun B ρ M => c ρ M (fun b M1 => pick2 t u b B ρ M1) (B.ex ρ)
theorem s_if {c : Expr} {a b : List Stmt} {tc : QT} (hc : QPT X T W c tc) (ha : QPSs X T W a t) (hb : QPSs X T W b u) : QPS X T W (.If c a b pos) (qIfS tc t u) := ⟨(tps_if hc.pt ha.ps hb.ps).impD fun D σ H h =>
  low_mono (low_es (R := fun _ b c => b = c) (k := pick2 t u) h) fun v H' z => by
    obtain ⟨d, r, _, q⟩ := z
    subst r
    cases v with
    | true => rw [if_pos rfl]; exact q
    | false => rw [if_neg Bool.false_ne_true]; exact q⟩

/-! targets -/
abbrev QG := D → PSt → Mp → (PSt → Mp → Prop) → Prop
abbrev QGs := List D → PSt → Mp → (PSt → Mp → Prop) → Prop
def lowG (K : PySem.W.Frag) (g : QG) : TG := fun v σ H Q => ∃ d ρ M Qd, Rep K H v d ∧ RepS K H σ ρ ∧ RepM K H M ∧ g d ρ M Qd ∧ ∀ σ' ρ' H' M', HExt H H' → RepS K H' σ' ρ' → RepM K H' M' → Qd ρ' M' → Q σ' H'
def lowGs (K : PySem.W.Frag) (g : QGs) : TGs := fun v σ H Q => ∃ d ρ M Qd, Reps K H v d ∧ RepS K H σ ρ ∧ RepM K H M ∧ g d ρ M Qd ∧ ∀ σ' ρ' H' M', HExt H H' → RepS K H' σ' ρ' → RepM K H' M' → Qd ρ' M' → Q σ' H'
structure QPG (X : Cx) (T : Nat) (e : Expr) (g : QG) : Prop where
  pg : TPG X T e (lowG X.K g)
structure QPGs (X : Cx) (T : Nat) (e : List Expr) (g : QGs) : Prop where
  pg : TPGs X T e (lowGs X.K g)
theorem _root_.L2.PG.impD {e : Expr} {t t' : TG} (h : PG X e t) (i : ∀ v σ H Q, t' v σ H Q → t v σ H Q) : PG X e t' := ⟨fun pins s σ H v u Q I r q => h.run pins s σ H v u Q I r (i _ _ _ _ q)⟩
theorem _root_.L2.PGs.impD {e : List Expr} {t t' : TGs} (h : PGs X e t) (i : ∀ v σ H Q, t' v σ H Q → t v σ H Q) : PGs X e t' := ⟨fun pins s σ H v u Q I r q => h.run pins s σ H v u Q I r (i _ _ _ _ q)⟩
def qgName (i : Nat) : QG := fun d ρ M Q => Q (st ρ i (some d)) M
theorem g_name {i : Nat} {x : Str} (hN : X.N.Nodup) (hi : X.N[i]? = some x) (hx : Loc X.env.scope x) (hf : X.fn x = true ∨ X.env.scope.names.lookup x = some .local := by first | exact .inl rfl | exact .inr rfl | assumption) : QPG X T (.Name x pos) (qgName i) :=
  ⟨(TPG.of (pg_name hN hi hx hf)).impD fun v σ H Q h => by
    obtain ⟨d, ρ, M, Qd, r, s, m, q, k⟩ := h
    exact k _ _ H M (HExt.refl H) (s.set r) m q⟩
def qgNil : QGs := fun ds ρ M Q => match ds with
  | [] => Q ρ M
  | _ => False
def qgCons (g : QG) (gs : QGs) : QGs := fun ds ρ M Q => match ds with
  | d :: r => g d ρ M fun ρ' M' => gs r ρ' M' Q
  | [] => False
theorem gs_nil : QPGs X T [] qgNil := ⟨(TPGs.of pgs_nil).impD fun v σ H Q h => by
  obtain ⟨d, ρ, M, Qd, r, s, m, q, k⟩ := h
  cases d with
  | nil => exact ⟨reps_inv0 r, k _ _ H M (HExt.refl H) s m q⟩
  | cons _ _ => exact (show False from q).elim⟩
theorem gs_cons {es : List Expr} {g : QG} {gs : QGs} (h1 : QPG X T e g) (h2 : QPGs X T es gs) (hs : (assignEach (e :: es) X.env).map (·.2) = assign e X.env :: (assignEach es X.env).map (·.2) := by rfl) : QPGs X T (e :: es) (qgCons g gs) := ⟨(tpgs_cons h1.pg h2.pg hs).impD fun v σ H Q h => by
  obtain ⟨d, ρ, M, Qd, r, s, m, q, k⟩ := h
  cases d with
  | nil => exact (show False from q).elim
  | cons d ds =>
    obtain ⟨w, ws, rfl, r1, r2⟩ := reps_inv r
    exact ⟨w, ws, rfl, d, ρ, M, _, r1, s, m, q, fun σ' ρ' H' M' e s' m' q' => ⟨ds, ρ', M', Qd, Reps.ext e _ _ r2, s', m', q', fun σ2 ρ2 H2 M2 e2 => k σ2 ρ2 H2 M2 (e.trans e2)⟩⟩⟩
def qgTup (n : Nat) (gs : QGs) : QG := fun d ρ M Q => match d with
  | .tup xs => xs.length = n ∧ gs xs ρ M Q
  | _ => False
theorem g_tup {es : List Expr} {k : Nat} {gs : QGs} {n : Nat} (hc : X.calm = true) (h : QPGs X T es gs) (hn : (assignEach es X.env).length = n := by rfl) (hst : (assignEach es X.env).findIdx? (·.1) = none := by rfl) : QPG X T (.Tuple es k pos) (qgTup n gs) :=
  ⟨(tpg_tup hc h.pg hn hst).impD fun v σ H Q h => by
    obtain ⟨d, ρ, M, Qd, r, s, m, q, k⟩ := h
    cases d with
    | tup xs =>
      rw [Rep] at r
      obtain ⟨a, vs, e1, s1, t1⟩ := r
      exact ⟨a, vs, e1, s1, by rw [t1.length]; exact q.1, xs, ρ, M, Qd, t1, s, m, q.2, k⟩
    | _ => exact (show False from q).elim⟩
/-- target = value -/
def qAsg (te : QE) (g : QG) : QS := fun B ρ M => te ρ M (fun x M1 => g x ρ M1 B.nx) (B.ex ρ)
theorem low_asg {K : PySem.W.Frag} {g : QG} {D : Ends} {σ : L2.St} {H : Hp} (h : lowS K W (qAsg te g) D σ H) : tAsg (lowE K W te) (lowG K g) D σ H :=
  low_mono (low_es (R := Rep K) (k := fun x B ρ M1 => g x ρ M1 B.nx) h) fun v H' z => by
    obtain ⟨d, r, _, ρ, M, B, hs, hm, ht, ok⟩ := z
    exact ⟨d, ρ, M, B.nx, r, hs, hm, ht, ok.nx⟩
theorem s_asg {tg : Expr} {g : QG} (he : QPE X T W e te) (hg : QPG X T tg g) (hs : swapsWithSole [tg] e pos.line X.env = pure false := by rfl) (hw : swappedStores [tg] e X.env = pure none := by rfl)
    (h1 : (assignEach [tg] X.env).map (·.2) = [assign tg X.env] := by rfl) : QPS X T W (.Assign [tg] e pos) (qAsg te g) := ⟨(tps_asg he.pe hg.pg hs hw h1).impD fun _ _ _ h => low_asg h⟩
def qSet (i : Nat) (te : QE) : QS := qAsg te (qgName i)
theorem s_set {i : Nat} {x : Str} {pos' : Pos} (hN : X.N.Nodup) (hi : X.N[i]? = some x) (hx : Loc X.env.scope x) (he : QPE X T W e te) (hs : swapsWith e (some (.Name x pos')) pos.line X.env = pure false := by rfl) (hf : X.fn x = true ∨ X.env.scope.names.lookup x = some .local := by first | exact .inl rfl | exact .inr rfl | assumption) :
    QPS X T W (.Assign [.Name x pos'] e pos) (qSet i te) := ⟨(tps_set hN hi hx he.pe hs hf).impD fun D σ H h =>
  low_mono (low_es (R := Rep X.K) (k := fun d B ρ M1 => B.nx (st ρ i (some d)) M1) h) fun v H' z => by
    obtain ⟨d, r, _, ρ, M, B, hs, hm, ht, ok⟩ := z
    exact ok.nx _ _ H' M (HExt.refl H') (hs.set r) hm ht⟩
/-- a, b = x, y -/
def qPar (i j : Nat) (ta : QA) : QS := fun B ρ M => ta ρ M (fun ds M1 => match ds with
  | [d, f] => B.nx (st (st ρ i (some d)) j (some f)) M1
  | _ => False) (B.ex ρ)
theorem s_par {i j : Nat} {x y : Str} {a b : Expr} {ta : QA} {px py pt : Pos} {kt k2 pt2} (hc : X.calm = true) (hN : X.N.Nodup) (hi : X.N[i]? = some x) (hj : X.N[j]? = some y) (hij : i ≠ j)
    (hx : X.env.scope.names.lookup x = some .local) (hy : X.env.scope.names.lookup y = some .local) (ha : QPA X T W [a, b] ta)
    (hw : swappedStores [.Tuple [.Name x px, .Name y py] kt pt] (.Tuple [a, b] k2 pt2) X.env = pure (some [x, y]))
    (hs : swapsWithSole [.Tuple [.Name x px, .Name y py] kt pt] (.Tuple [a, b] k2 pt2) pos.line X.env = pure false := by rfl) :
    QPS X T W (.Assign [.Tuple [.Name x px, .Name y py] kt pt] (.Tuple [a, b] k2 pt2) pos) (qPar i j ta) := ⟨(tps_par hc hN hi hj hij hx hy ha.pa hw hs).impD fun D σ H h =>
  low_mono (low_es (R := Reps X.K) (k := fun ds B ρ M1 => match ds with
    | [d, f] => B.nx (st (st ρ i (some d)) j (some f)) M1
    | _ => False) h) fun v H' z => by
    obtain ⟨ds, r, _, ρ, M, B, hs, hm, ht, ok⟩ := z
    split at ht
    · rename_i d f
      obtain ⟨v1, r1, rfl, q1, q2⟩ := reps_inv r
      obtain ⟨v2, r2, rfl, q3, q4⟩ := reps_inv q2
      cases reps_inv0 q4
      exact ⟨v1, v2, rfl, ok.nx _ _ H' M (HExt.refl H') ((hs.set q1).set q3) hm ht⟩
    · exact ht.elim⟩
/-- name op= e -/
def qAug (i : Nat) (te : QE) (r : Q2) : QS := fun B ρ M => match lk ρ i with
  | some x => te ρ M (fun y M1 => r x y M1 fun z M2 => B.nx (st ρ i (some z)) M2) (B.ex ρ)
  | none => False
theorem s_aug {i : Nat} {x : Str} {op : Operator} {r : Q2} {pos' : Pos} (hN : X.N.Nodup) (hi : X.N[i]? = some x) (hx : Loc X.env.scope x) (he : QPE X T W e te) (ho : OpQ X (inplaceOp op) r) (hf : X.fn x = true ∨ X.env.scope.names.lookup x = some .local := by first | exact .inl rfl | exact .inr rfl | assumption) :
    QPS X T W (.AugAssign (.Name x pos') op e pos) (qAug i te r) := ⟨(tps_aug hN hi hx he.pe (ti := lowR2 X.K r) (fun pins s σ H x y v u Q I rx ry q => ho pins s σ H x y v u Q I rx ry q) hf).impD fun D σ H h => by
  obtain ⟨ρ, M, B, hs, hm, ht, ok⟩ := h
  unfold qAug at ht
  split at ht
  · rename_i d e1
    obtain ⟨v, h1, h2⟩ := hs.get i d e1
    refine ⟨v, h1, ρ, M, _, B.ex ρ, hs, hm, ht, fun w f H' M' e m r' q => ?_, ok.okX hs⟩
    exact ⟨d, f, M', _, Rep.ext e _ _ h2, r', m, q, fun z g H2 M2 e2 m2 r2 q2 => ok.nx _ _ H2 M2 (e.trans e2) ((hs.ext (e.trans e2)).set r2) m2 q2⟩
  · exact ht.elim⟩
/-- what += does with ints and texts -/
def rIadd : Q2 := fun x y M Q => match x, y with
  | .int i, .int j => Q (.int (i + j)) M
  | .str a, .str b => a.length + b.length ≤ sizeLine ∧ Q (.str (a ++ b)) M
  | _, _ => False
theorem oq_iadd : OpQ X (inplaceOp .Add) rIadd := by
  intro pins s σ H x y v u Q I rx ry h
  obtain ⟨dx, dy, M, Qd, r1, r2, m, q, k⟩ := h
  unfold rIadd at q
  split at q
  · rename_i i j
    rw [Rep] at r1 r2
    exact iop_add pins s σ H x y v u Q I rx ry ⟨i, j, r1, r2, k _ _ H M (HExt.refl H) m (by rw [Rep]) q⟩
  · rename_i a b
    rw [Rep] at r1 r2
    refine iop_add_str pins s σ H x y v u Q I rx ry ⟨_, _, r1, r2, by rw [str_len, str_len]; exact q.1, ?_⟩
    exact k _ _ H M (HExt.refl H) m (by rw [Rep, str_app]) q.2
  · exact q.elim
theorem oq_isub : OpQ X (inplaceOp .Sub) rSub := oq_int0 iop_sub fun i j H => by rw [Rep]
/-- o[i] = value, o a list -/
def rSetI : D → D → D → Mp → (Mp → Prop) → Prop := fun o i v M Q => match o, i with
  | .ref p, .int k => match M p with
    | some (.lst xs) => match ixN xs.length k with
      | some j => Q (updM M p (.lst (xs.set j v)))
      | none => False
    | _ => False
  | _, _ => False
def lowSet (K : PySem.W.Frag) : TSet := fun o i v H Q => ∃ d f g M Qd, Rep K H o d ∧ Rep K H i f ∧ Rep K H v g ∧ RepM K H M ∧ rSetI d f g M Qd ∧ ∀ H' M', HExt H H' → RepM K H' M' → Qd M' → Q H'
theorem set_low : PSet X (lowSet X.K) := by
  intro pins s σ H o i v ov iv u Q I ro ri rv h
  obtain ⟨d, f, g, M, Qd, r1, r2, r3, m, q, k⟩ := h
  unfold rSetI at q
  split at q
  · rename_i p n
    rw [Rep] at r1
    rw [Rep] at r2
    split at q
    · rename_i xs e
      obtain ⟨vs, hp, t⟩ := m _ _ e
      split at q
      · rename_i j ej
        refine set_list pins s σ H o i v ov iv u Q I ro ri rv ⟨p, vs, n, j, r1, r2, hp, by rw [t.length]; exact ej, ?_⟩
        have ex : HExt H (upd H p (.lst (vs.set j v))) := m.extM e
        exact k _ _ ex (m.set (u := .lst (xs.set j g)) e ⟨_, upd_same, (Reps.ext ex _ _ t).set j (Rep.ext ex _ _ r3)⟩) q
      · exact q.elim
    · exact q.elim
  · exact q.elim
def qgSub (to ti : QE) : QG := fun d ρ M Q => to ρ M (fun o M1 => ti ρ M1 (fun i M2 => rSetI o i d M2 fun M3 => Q ρ M3) fun _ _ _ => False) fun _ _ _ => False
/-- the place of a store: raises nothing -/
theorem g_sub {o i : Expr} {to ti : QE} (ho : QPE X T (fun _ _ _ _ => False) o to) (hi : QPE X T (fun _ _ _ _ => False) i ti)
    (ha : ∀ v, assign (.Subscript o i pos) X.env v = (do
      let ov ← holding [v] (eval o X.env)
      let iv ← holding [v, ov] (eval i X.env)
      standAt pos
      holding [v, ov, iv] (setItem ov iv v)
      release [v, ov, iv] []) := by intro _; rfl) : QPG X T (.Subscript o i pos) (qgSub to ti) := ⟨(tpg_sub ho.pe hi.pe set_low ha).impD fun v σ H Q h => by
  obtain ⟨d, ρ, M, Qd, r, s, m, q, k⟩ := h
  refine ⟨ρ, M, _, _, s, m, q, fun w f H1 M1 e1 m1 r1 q1 => ?_, fun _ _ _ _ _ _ _ _ z => z⟩
  refine ⟨ρ, M1, _, _, s.ext e1, m1, q1, fun w' f' H2 M2 e2 m2 r2 q2 => ?_, fun _ _ _ _ _ _ _ _ z => z⟩
  exact ⟨f, f', d, M2, _, Rep.ext e2 _ _ r1, r2, Rep.ext (e1.trans e2) _ _ r, m2, q2, fun H3 M3 e3 m3 q3 => k σ ρ H3 M3 ((e1.trans e2).trans e3) (s.ext ((e1.trans e2).trans e3)) m3 q3⟩⟩
end
end DL
end

section
set_option Elab.async false
set_option linter.all false
set_option maxRecDepth 100000
set_option maxHeartbeats 2000000
namespace DL
open PySem PySem.Spec PyProof.Rows L2

/-! ### defs -/
abbrev SpD := List D → Mp → QK → QX → Prop
def lowSp (K : PySem.W.Frag) (sp : SpD) : Sp := fun vs H Q E => ∃ ds M Qd Ex, Reps K H vs ds ∧ RepM K H M ∧ sp ds M Qd Ex ∧ (∀ v d H' M', HExt H H' → RepM K H' M' → Rep K H' v d → Qd d M' → Q v H') ∧
  (∀ C dd fs H' M', HExt H H' → RepM K H' M' → RepX K H' dd fs → Ex C fs M' → E (.ref C) dd H')
def FnD (P : Program) (w : World) (K : PySem.W.Frag) (mg : Str → Option Value) (base : Heap) (T : Nat) (k : Nat) (f : Addr) (fd : FuncData) (ps : List Str) (sp : SpD) : Prop := FnT P w K mg base (L2.CX P w) T k f fd ps (lowSp K sp)
def startD (N : List Str) (ds : List D) : PSt := ds.map some ++ List.replicate (N.length - ds.length) none
theorem lk_start : ∀ (ds : List D) (n i : Nat) (d : D), lk (ds.map some ++ List.replicate n none) i = some d → ds[i]? = some d
  | [], n, i, d, h => by
    have : ∀ (n i : Nat), lk (List.replicate n none) i = none := by
      intro n
      induction n with
      | zero => intro i; rfl
      | succ n ih =>
        intro i
        cases i with
        | zero => rfl
        | succ i => exact ih i
    rw [List.map_nil, List.nil_append, this] at h
    cases h
  | x :: ds, n, 0, d, h => by
    cases (show some x = some d from h)
    rfl
  | x :: ds, n, i + 1, d, h => by
    have := lk_start ds n i d h
    simpa using this
theorem startD_rep {K : PySem.W.Frag} {H : Hp} {N : List Str} {vs : List V} {ds : List D} (r : Reps K H vs ds) (hl : ds.length ≤ N.length) : RepS K H (L2.start N vs) (startD N ds) := by
  have e := r.length
  refine ⟨?_, fun i d h => ?_⟩
  · unfold startD L2.start
    rw [List.length_append, List.length_append, List.length_map, List.length_map, List.length_replicate, List.length_replicate, e]
  · have h2 := lk_start _ _ _ _ h
    obtain ⟨v, hv, rv⟩ := r.get h2
    refine ⟨v, ?_, rv⟩
    unfold L2.start
    have hi : i < vs.length := (List.getElem?_eq_some_iff.mp hv).1
    rw [List.getElem?_append_left (by simpa using hi), List.getElem?_map, hv]
    rfl
/-- where a body ends: the def's own ends -/
def endsD (Q : QK) (E : QX) : QB := { nx := fun _ M => Q .non M, rt := Q, ex := fun _ => E }
abbrev WD (E : XK) : WX := fun cls d _ H => E cls d H
section
variable {T : Nat} {P : Program} {w : World} {K : PySem.W.Frag} {mg : Str → Option Value} {base : Heap}
/-- the context of a def's body -/
abbrev cxD (P : Program) (w : World) (K : PySem.W.Frag) (mg : Str → Option Value) (base : Heap) (N : List Str) (qual : Str) (st : Stmt) (f : Addr) (cdv : Value) (A : Around) (outer : List Env) (s : Shared) (H : Hp) (E : XK) : Cx :=
  cxOf (L2.CX P w) P w K mg base N qual (defScope st) f cdv A outer s H E
theorem takesD {N : List Str} {qual : Str} {st : Stmt} {f : Addr} {cdv : Value} {A : Around} {outer : List Env} {s : Shared} {H : Hp} {E : XK} : Takes (cxD P w K mg base N qual st f cdv A outer s H E) (WD E) :=
  takes_of rfl rfl rfl (E₁ := fun e' s'' => L2.CX P w outer H s E e' s'') rfl
/-- THE RULE of a def: its body's reading from its promise -/
theorem fnd_of {x qual : Str} {st : Stmt} {f : Addr} {fd : FuncData} {N ps : List Str} {k : Nat} {sp : SpD} {t : QS} (F : Fun K x qual st f fd) (S : FnScope N ps (defScope st)) (len : ∀ ds M Q E, sp ds M Q E → ds.length = ps.length)
    (body : ∀ (cdv : Value) (A : Around) (outer : List Env) (s : Shared) (H : Hp) (E : XK), Room k (A.deeper (envOfC qual (defScope st) s.heap.objs.size f cdv)) → Takes (cxD P w K mg base N qual st f cdv A outer s H E) (WD E) → QPSs (cxD P w K mg base N qual st f cdv A outer s H E) T (WD E) (defBody st) t)
    (hsp : ∀ ds M Q E, sp ds M Q E → t (endsD Q E) (startD N ds) M) : FnD P w K mg base T (k + 1) f fd ps sp := by
  refine fnT_of F S (fun vs H Q E h => ?_) (fun cdv A outer s H vs Q E hr _ h => ?_)
  · obtain ⟨ds, M, Qd, Ex, r, m, q, _⟩ := h
    rw [r.length]
    exact len _ _ _ _ q
  · obtain ⟨ds, M, Qd, Ex, r, m, q, k1, k2⟩ := h
    refine ⟨_, (body cdv A outer s H E hr takesD).ps, startD N ds, M, endsD Qd Ex, ?_, m, hsp _ _ _ _ q, ?_⟩
    · refine startD_rep r ?_
      have h1 := len _ _ _ _ q
      have h2 : ps.length ≤ N.length := by have := congrArg List.length S.pre; rw [List.length_take] at this; omega
      omega
    · exact ⟨fun σ' ρ' H' M' e s m q => k1 _ .non H' M' e m (by rw [Rep]) q, fun _ _ _ _ _ _ _ z => z, fun _ _ _ _ _ _ _ z => z, fun v d H' M' e m r q => k1 v d H' M' e m r q, fun C dd fs σ' ρ' H' M' e s m x q => k2 C dd fs H' M' e m x q⟩
theorem FnD.mono {j k : Nat} {f : Addr} {fd : FuncData} {ps : List Str} {sp : SpD} (F : FnD P w K mg base T j f fd ps sp) (h : j ≤ k) : FnD P w K mg base T k f fd ps sp := FnT.mono F h
/-- a stronger promise is a weaker one too -/
theorem FnD.imp {k : Nat} {f : Addr} {fd : FuncData} {ps : List Str} {sp sp' : SpD} (F : FnD P w K mg base T k f fd ps sp) (h : ∀ ds M Q E, sp' ds M Q E → sp ds M Q E) : FnD P w K mg base T k f fd ps sp' :=
  FnT.imp F fun vs H Q E ⟨ds, M, Qd, Ex, r, m, q, z⟩ => ⟨ds, M, Qd, Ex, r, m, h _ _ _ _ q, z⟩
end

/-! ### calls -/
def qCall (sp : SpD) (t : QA) : QE := fun ρ M Q E => t ρ M (fun ds M1 => sp ds M1 Q E) E
section
variable {X : Cx} {T : Nat} {W : WX} {k : Nat} {f C : Addr} {fd : FuncData} {ps : List Str} {sp : SpD} {x m : Str} {p pos apos : Pos} {e o : Expr} {es : List Expr} {ta te : QE} {t : QA}
theorem q_call (F : FnD X.prog X.w X.K X.mg X.base T k f fd ps sp) (hr : Room k X.A) (hg : Gl X x) (hm : X.mg x = some (.ref f)) (hk : PySem.W.keepIn X.K (.ref f) = true) (hb : Binds X.K fd ps []) (tk : Takes X W)
    (ha : QPA X T W (e :: es) t) (hdb : (x == ("__debug__" : Str)) = false := by decide) (he : starEach (e :: es) X.env = (false, eval e X.env) :: starEach es X.env := by rfl) (hpl : (backTo pos (starEach es X.env)).any (·.1) = false := by rfl) :
    QPE X T W (.Call (.Name x p) (e :: es) [] pos) (qCall sp t) := ⟨(tpe_callS F hr hg hm hk hb (fun σ => passAt tk σ) ha.pa hdb he hpl).impD fun σ H Q h => by
  obtain ⟨ρ, M, Qd, E, hs, hm, ht, hq, hx⟩ := h
  refine ⟨ρ, M, _, E, hs, hm, ht, fun vs ds H1 M1 e1 m1 r1 q1 => ?_, hx⟩
  exact ⟨ds, M1, Qd, E, r1, m1, q1, fun v d H' M' e2 => hq v d H' M' (e1.trans e2), fun C dd fs H' M' e2 m2 x2 q2 => hx C dd fs H' M' (e1.trans e2) m2 x2 q2⟩⟩
/-- f() -/
def qCall0 (sp : SpD) : QE := fun _ M Q E => sp [] M Q E
theorem q_call0 (F : FnD X.prog X.w X.K X.mg X.base T k f fd ps sp) (hr : Room k X.A) (hg : Gl X x) (hm : X.mg x = some (.ref f)) (hk : PySem.W.keepIn X.K (.ref f) = true) (hb : Binds X.K fd ps []) (tk : Takes X W)
    (hdb : (x == ("__debug__" : Str)) = false := by decide) : QPE X T W (.Call (.Name x p) [] [] pos) (qCall0 sp) := ⟨(tpe_call0 F hr hg hm hk hb (fun σ => passAt tk σ) hdb).impD fun σ H Q h => by
  obtain ⟨ρ, M, Qd, E, hs, hm, ht, hq, hx⟩ := h
  exact ⟨[], M, Qd, E, reps_nil, hm, ht, hq, fun C dd fs H' M' e2 m2 x2 q2 => hx C dd fs H' M' e2 m2 x2 q2⟩⟩

/-! built-ins -/
abbrev QC1 := List D → Mp → QK → Prop
def lowC (K : PySem.W.Frag) (r : QC1) : List V → Hp → VK → Prop := fun vs H Q => ∃ ds M Qd, Reps K H vs ds ∧ RepM K H M ∧ r ds M Qd ∧ ∀ v d H' M', HExt H H' → RepM K H' M' → Rep K H' v d → Qd d M' → Q v H'
def CallQ (X : Cx) (f : Value) (r : QC1) : Prop := CallR X f (lowC X.K r)
def qCB (r : QC1) (t : QA) : QE := fun ρ M Q E => t ρ M (fun ds M1 => r ds M1 Q) E
theorem low_cb {r : QC1} {σ : L2.St} {H : Hp} {Q : VK} (h : lowE X.K W (qCB r t) σ H Q) : tCB (lowC X.K r) (lowA X.K W t) σ H Q := by
  obtain ⟨ρ, M, Qd, E, hs, hm, ht, hq, hx⟩ := h
  exact ⟨ρ, M, _, E, hs, hm, ht, fun vs ds H1 M1 e1 m1 r1 q1 => ⟨ds, M1, Qd, r1, m1, q1, fun v d H' M' e2 => hq v d H' M' (e1.trans e2)⟩, hx⟩
variable {id Ty : String} {r : QC1}
theorem q_callB (hc : CallQ X (.builtin id) r) (hg : Gl X x) (hm : X.mg x = none) (hv : bootBuiltins x = some (.builtin id)) (ha : QPA X T W (e :: es) t) (hn : x ≠ "__name__" := by decide) (hdb : (x == ("__debug__" : Str)) = false := by decide)
    (he : starEach (e :: es) X.env = (false, eval e X.env) :: starEach es X.env := by rfl) (hpl : (backTo pos (starEach es X.env)).any (·.1) = false := by rfl) : QPE X T W (.Call (.Name x p) (e :: es) [] pos) (qCB r t) :=
  ⟨(tpe_callB hc hg hm hv ha.pa hn hdb he hpl).impD fun _ _ _ h => low_cb h⟩
theorem q_callTy (hc : CallQ X (.type Ty) r) (hg : Gl X x) (hm : X.mg x = none) (hv : bootBuiltins x = some (.type Ty)) (ha : QPA X T W (e :: es) t) (hn : x ≠ "__name__" := by decide) (hdb : (x == ("__debug__" : Str)) = false := by decide)
    (he : starEach (e :: es) X.env = (false, eval e X.env) :: starEach es X.env := by rfl) (hpl : (backTo pos (starEach es X.env)).any (·.1) = false := by rfl) : QPE X T W (.Call (.Name x p) (e :: es) [] pos) (qCB r t) :=
  ⟨(tpe_callTy hc hg hm hv ha.pa hn hdb he hpl).impD fun _ _ _ h => low_cb h⟩
def rLen : QC1 := fun ds M Q => match ds with
  | [.str z] => z.length ≤ sizeLine ∧ Q (.int z.length) M
  | [.tup xs] => Q (.int xs.length) M
  | [.fl xs] => Q (.int xs.length) M
  | [.ref a] => match M a with
    | some (.lst xs) => Q (.int xs.length) M
    | _ => False
  | _ => False
theorem reps1 {K : PySem.W.Frag} {H : Hp} {vs : List V} {d : D} (h : Reps K H vs [d]) : ∃ v, vs = [v] ∧ Rep K H v d := by
  obtain ⟨v, r, rfl, h1, h2⟩ := reps_inv h
  cases reps_inv0 h2
  exact ⟨v, rfl, h1⟩
theorem reps2 {K : PySem.W.Frag} {H : Hp} {vs : List V} {d f : D} (h : Reps K H vs [d, f]) : ∃ v w, vs = [v, w] ∧ Rep K H v d ∧ Rep K H w f := by
  obtain ⟨v, r, rfl, h1, h2⟩ := reps_inv h
  obtain ⟨w, rfl, h3⟩ := reps1 h2
  exact ⟨v, w, rfl, h1, h3⟩
theorem c_len : CallQ X (.builtin "len") rLen := by
  intro pins s σ H xs us Q I r h
  obtain ⟨ds, M, Qd, r1, m, q, k⟩ := h
  unfold rLen at q
  split at q
  · obtain ⟨v, rfl, h1⟩ := reps1 r1
    rw [Rep] at h1
    subst h1
    exact call_len pins s σ H _ us Q I r ⟨_, _, rfl, ⟨by rw [str_len]; exact q.1, rfl⟩, k _ _ H M (HExt.refl H) m (by rw [Rep, str_len]) q.2⟩
  · obtain ⟨v, rfl, h1⟩ := reps1 r1
    rw [Rep] at h1
    obtain ⟨a, vs, rfl, s1, t1⟩ := h1
    exact call_len pins s σ H _ us Q I r ⟨_, _, rfl, .inr ⟨vs, s1, rfl⟩, k _ _ H M (HExt.refl H) m (by rw [Rep, t1.length]) q⟩
  · obtain ⟨v, rfl, h1⟩ := reps1 r1
    rw [Rep] at h1
    obtain ⟨a, vs, rfl, s1, t1⟩ := h1
    exact call_len pins s σ H _ us Q I r ⟨_, _, rfl, .inl ⟨vs, flL s1, rfl⟩, k _ _ H M (HExt.refl H) m (by rw [Rep, t1.length]) q⟩
  · obtain ⟨v, rfl, h1⟩ := reps1 r1
    rw [Rep] at h1
    subst h1
    split at q
    · rename_i xs e
      obtain ⟨vs, s1, t1⟩ := m _ _ e
      exact call_len pins s σ H _ us Q I r ⟨_, _, rfl, .inl ⟨vs, SqL.of s1, rfl⟩, k _ _ H M (HExt.refl H) m (by rw [Rep, t1.length]) q⟩
    · exact q.elim
  · exact q.elim
/-- int of ints, truth values, texts -/
def rInt1 : QC1 := fun ds M Q => match ds with
  | [.int i] => Q (.int i) M
  | [.bl b] => Q (.int (if b then 1 else 0)) M
  | [.str x] => ∃ n, PySem.intText? ⟨x.toArray⟩ = some n ∧ x.length ≤ 640 ∧ Q (.int n) M
  | _ => False
theorem c_int : CallQ X (.type "int") rInt1 := by
  intro pins s σ H xs us Q I r h
  obtain ⟨ds, M, Qd, r1, m, q, k⟩ := h
  unfold rInt1 at q
  split at q
  · obtain ⟨v, rfl, h1⟩ := reps1 r1
    rw [Rep] at h1
    subst h1
    exact call_int1 pins s σ H _ us Q I r (.inl ⟨_, rfl, k _ _ H M (HExt.refl H) m (by rw [Rep]) q⟩)
  · obtain ⟨v, rfl, h1⟩ := reps1 r1
    rw [Rep] at h1
    subst h1
    exact call_int1 pins s σ H _ us Q I r (.inr ⟨_, rfl, k _ _ H M (HExt.refl H) m (by rw [Rep]) q⟩)
  · obtain ⟨v, rfl, h1⟩ := reps1 r1
    rw [Rep] at h1
    subst h1
    obtain ⟨n, hn, hl, q⟩ := q
    exact call_int_str pins s σ H _ us Q I r ⟨_, n, rfl, hn, by rw [str_len]; exact hl, k _ _ H M (HExt.refl H) m (by rw [Rep]) q⟩
  · exact q.elim
def rAbs : QC1 := fun ds M Q => match ds with
  | [.int i] => Q (.int (if i < 0 then -i else i)) M
  | _ => False
theorem c_abs : CallQ X (.builtin "abs") rAbs := by
  intro pins s σ H xs us Q I r h
  obtain ⟨ds, M, Qd, r1, m, q, k⟩ := h
  unfold rAbs at q
  split at q
  · obtain ⟨v, rfl, h1⟩ := reps1 r1
    rw [Rep] at h1
    subst h1
    exact call_abs pins s σ H _ us Q I r ⟨_, rfl, k _ _ H M (HExt.refl H) m (by rw [Rep]) q⟩
  · exact q.elim
/-- list of a list or a tuple: a new list -/
def rList : QC1 := fun ds M Q => match ds with
  | [.tup xs] => ∀ p, M p = none → Q (.ref p) (updM M p (.lst xs))
  | [.fl xs] => ∀ p, M p = none → Q (.ref p) (updM M p (.lst xs))
  | [.ref a] => match M a with
    | some (.lst xs) => ∀ p, M p = none → Q (.ref p) (updM M p (.lst xs))
    | _ => False
  | _ => False
theorem c_list : CallQ X (.type "list") rList := by
  intro pins s σ H xs us Q I r h
  obtain ⟨ds, M, Qd, r1, m, q, k⟩ := h
  have go : ∀ {a : Addr} {vs : List V} {xs : List D}, (SqL X.K H a vs ∨ SqT X.K H a vs) → Reps X.K H vs xs → (∀ p, M p = none → Qd (.ref p) (updM M p (.lst xs))) → ∀ l, H l = none → Q (.ref l) (upd H l (.lst vs)) := fun {a vs xs} hq t1 q l hl => by
    have e := HExt.new (o := .lst vs) hl
    exact k _ _ _ _ e (m.put (u := .lst xs) hl ⟨_, upd_same, Reps.ext e _ _ t1⟩) (by rw [Rep]) (q l (m.free hl))
  unfold rList at q
  split at q
  · obtain ⟨v, rfl, h1⟩ := reps1 r1
    rw [Rep] at h1
    obtain ⟨a, vs, rfl, s1, t1⟩ := h1
    exact call_list_of pins s σ H _ us Q I r ⟨a, vs, rfl, .inr s1, go (.inr s1) t1 q⟩
  · obtain ⟨v, rfl, h1⟩ := reps1 r1
    rw [Rep] at h1
    obtain ⟨a, vs, rfl, s1, t1⟩ := h1
    exact call_list_of pins s σ H _ us Q I r ⟨a, vs, rfl, .inl (flL s1), go (.inl (flL s1)) t1 q⟩
  · obtain ⟨v, rfl, h1⟩ := reps1 r1
    rw [Rep] at h1
    subst h1
    split at q
    · rename_i xs e
      obtain ⟨vs, s1, t1⟩ := m _ _ e
      exact call_list_of pins s σ H _ us Q I r ⟨_, vs, rfl, .inl (SqL.of s1), go (.inl (SqL.of s1)) t1 q⟩
    · exact q.elim
  · exact q.elim
/-- tuple of a list or a tuple -/
def rTuple : QC1 := fun ds M Q => match ds with
  | [.tup xs] => Q (.tup xs) M
  | [.fl xs] => Q (.tup xs) M
  | [.ref a] => match M a with
    | some (.lst xs) => Q (.tup xs) M
    | _ => False
  | _ => False
theorem c_tuple : CallQ X (.type "tuple") rTuple := by
  intro pins s σ H xs us Q I r h
  obtain ⟨ds, M, Qd, r1, m, q, k⟩ := h
  have go : ∀ {a : Addr} {vs : List V} {xs : List D}, Reps X.K H vs xs → Qd (.tup xs) M → ∀ l, H l = none → Q (.ref l) (upd H l (.tup vs)) := fun {a vs xs} t1 q l hl => by
    have e := HExt.new (o := .tup vs) hl
    exact k _ _ _ _ e (m.new hl) (by rw [Rep]; exact ⟨l, vs, rfl, SqT.of upd_same, Reps.ext e _ _ t1⟩) q
  unfold rTuple at q
  split at q
  · obtain ⟨v, rfl, h1⟩ := reps1 r1
    rw [Rep] at h1
    obtain ⟨a, vs, rfl, s1, t1⟩ := h1
    exact call_tuple_of pins s σ H _ us Q I r ⟨a, vs, rfl, .inr ⟨s1, k _ _ H M (HExt.refl H) m (by rw [Rep]; exact ⟨a, vs, rfl, s1, t1⟩) q⟩⟩
  · obtain ⟨v, rfl, h1⟩ := reps1 r1
    rw [Rep] at h1
    obtain ⟨a, vs, rfl, s1, t1⟩ := h1
    exact call_tuple_of pins s σ H _ us Q I r ⟨a, vs, rfl, .inl ⟨flL s1, go (a := a) t1 q⟩⟩
  · obtain ⟨v, rfl, h1⟩ := reps1 r1
    rw [Rep] at h1
    subst h1
    split at q
    · rename_i xs e
      obtain ⟨vs, s1, t1⟩ := m _ _ e
      exact call_tuple_of pins s σ H _ us Q I r ⟨_, vs, rfl, .inl ⟨SqL.of s1, go (a := 0) t1 q⟩⟩
    · exact q.elim
  · exact q.elim
/-- str of an int -/
def numD (i : Int) : List Nat := (toString i : Str).cps.toList
def rStr1 : QC1 := fun ds M Q => match ds with
  | [.int i] => i.natAbs.log2 < 1920 ∧ Q (.str (numD i)) M
  | _ => False
theorem c_str : CallQ X (.type "str") rStr1 := by
  intro pins s σ H xs us Q I r h
  obtain ⟨ds, M, Qd, r1, m, q, k⟩ := h
  unfold rStr1 at q
  split at q
  · obtain ⟨v, rfl, h1⟩ := reps1 r1
    rw [Rep] at h1
    subst h1
    exact call_str_int pins s σ H _ us Q I r ⟨_, rfl, q.1, k _ _ H M (HExt.refl H) m (by rw [Rep]; rfl) q.2⟩
  · exact q.elim
/-- ord -/
def rOrd : QC1 := fun ds M Q => match ds with
  | [.str [c]] => Q (.int c) M
  | _ => False
theorem c_ord : CallQ X (.builtin "ord") rOrd := by
  intro pins s σ H xs us Q I r h
  obtain ⟨ds, M, Qd, r1, m, q, k⟩ := h
  unfold rOrd at q
  split at q
  · obtain ⟨v, rfl, h1⟩ := reps1 r1
    rw [Rep] at h1
    subst h1
    exact call_ord pins s σ H _ us Q I r ⟨_, rfl, rfl, k _ _ H M (HExt.refl H) m (by rw [Rep]; rfl) q⟩
  · exact q.elim
/-- all, any of a list of truth values; sum of ints -/
def blsD : List D → Option (List Bool)
  | [] => some []
  | .bl b :: r => (blsD r).map (b :: ·)
  | _ => none
theorem blsD_eq : ∀ {ds : List D} {bs : List Bool}, blsD ds = some bs → ds = bs.map D.bl
  | [], bs, h => by cases h; rfl
  | d :: ds, bs, h => by
    cases d <;> simp only [blsD] at h <;> try (cases h; done)
    rename_i b
    obtain ⟨l, h1, h2⟩ := Option.map_eq_some_iff.mp h
    subst h2
    rw [blsD_eq h1]
    rfl
def rAll : QC1 := fun ds M Q => match ds with
  | [.ref a] => match M a with
    | some (.lst xs) => match blsD xs with
      | some bs => Q (.bl (bs.all fun b => b)) M
      | none => False
    | _ => False
  | _ => False
def rAny : QC1 := fun ds M Q => match ds with
  | [.ref a] => match M a with
    | some (.lst xs) => match blsD xs with
      | some bs => Q (.bl (bs.any fun b => b)) M
      | none => False
    | _ => False
  | _ => False
theorem c_all (hc : X.calm = true) : CallQ X (.builtin "all") rAll := by
  intro pins s σ H xs us Q I r h
  obtain ⟨ds, M, Qd, r1, m, q, k⟩ := h
  unfold rAll at q
  split at q
  · obtain ⟨v, rfl, h1⟩ := reps1 r1
    rw [Rep] at h1
    subst h1
    split at q
    · rename_i xs e
      obtain ⟨vs, s1, t1⟩ := m _ _ e
      split at q
      · rename_i bs eb
        cases blsD_eq eb
        cases Reps.bls t1
        exact cr_all hc pins s σ H _ us Q I r ⟨_, bs, rfl, SqL.of s1, k _ _ H M (HExt.refl H) m (by rw [Rep]; rfl) q⟩
      · exact q.elim
    · exact q.elim
  · exact q.elim
theorem c_any (hc : X.calm = true) : CallQ X (.builtin "any") rAny := by
  intro pins s σ H xs us Q I r h
  obtain ⟨ds, M, Qd, r1, m, q, k⟩ := h
  unfold rAny at q
  split at q
  · obtain ⟨v, rfl, h1⟩ := reps1 r1
    rw [Rep] at h1
    subst h1
    split at q
    · rename_i xs e
      obtain ⟨vs, s1, t1⟩ := m _ _ e
      split at q
      · rename_i bs eb
        cases blsD_eq eb
        cases Reps.bls t1
        exact cr_any hc pins s σ H _ us Q I r ⟨_, bs, rfl, SqL.of s1, k _ _ H M (HExt.refl H) m (by rw [Rep]; rfl) q⟩
      · exact q.elim
    · exact q.elim
  · exact q.elim
/-! isinstance with a built-in class -/
def tyO : Option MO → Option String
  | some (.lst _) => some "list"
  | some (.dic _) => some "dict"
  | _ => none
def tyD (M : Mp) : D → Option String
  | .non => some "NoneType"
  | .bl _ => some "bool"
  | .int _ => some "int"
  | .str _ => some "str"
  | .tup _ => some "tuple"
  | .fl _ => some "list"
  | .ref a => tyO (M a)
  | .ty _ => none
  | .exc .. => none
def rIsi : QC1 := fun ds M Q => match ds with
  | [x, .ty n] => match tyD M x with
    | some t => match kitB t n with
      | some b => Q (.bl b) M
      | none => False
    | none => False
  | _ => False
theorem tyD_ok {pins : List (Addr × Obj)} {s : Shared} {σ : L2.St} {H : Hp} {M : Mp} {x : V} {d : D} {t : String} (m : RepM X.K H M) (r : Rep X.K H x d) (h : tyD M d = some t) : TyX X.K H x (.type t) := by
  cases d with
  | non => rw [Rep] at r; subst r; cases h; exact .base .non
  | bl b => rw [Rep] at r; subst r; cases h; exact .base (.bl b)
  | int i => rw [Rep] at r; subst r; cases h; exact .base (.int i)
  | str i => rw [Rep] at r; subst r; cases h; exact .base (.str _)
  | ty n => cases h
  | exc C a dd ns xs => cases h
  | tup xs =>
    rw [Rep] at r
    obtain ⟨a, vs, rfl, s1, t1⟩ := r
    cases h
    rcases s1 with (s1 | ⟨o, s1⟩) | ⟨o, its, n, hk, hc, _⟩
    · exact .base (.tup s1)
    · exact .fTuple s1
    · exact .kTuple hk hc
  | fl xs =>
    rw [Rep] at r
    obtain ⟨a, vs, rfl, s1, t1⟩ := r
    cases h
    rcases s1 with ⟨o, s1⟩ | ⟨o, its, n, hk, hc, _⟩
    · exact .base (.frz s1)
    · exact .kList hk hc
  | ref a =>
    rw [Rep] at r
    subst r
    have h : tyO (M a) = some t := h
    cases e : M a with
    | none => rw [e] at h; cases h
    | some o =>
      rw [e] at h
      cases o with
      | lst xs =>
        obtain ⟨vs, s1, _⟩ := m _ _ e
        cases h
        exact .base (.lst s1)
      | dic xs =>
        obtain ⟨vs, s1, _⟩ := m _ _ e
        cases h
        exact .base (.dK s1)
      | ins _ _ _ => cases h
theorem c_isi : CallQ X (.builtin "isinstance") rIsi := by
  intro pins s σ H xs us Q I r h
  obtain ⟨ds, M, Qd, r1, m, q, k⟩ := h
  unfold rIsi at q
  split at q
  · rename_i x n
    obtain ⟨v, w, rfl, h1, h2⟩ := reps2 r1
    rw [Rep] at h2
    subst h2
    split at q
    · rename_i t et
      split at q
      · rename_i b eb
        exact call_isi pins s σ H _ us Q I r ⟨_, _, _, _, b, rfl, .ty n, tyD_ok (pins := pins) (s := s) (σ := σ) m h1 et, kit_ty eb, k _ _ H M (HExt.refl H) m (by rw [Rep]) q⟩
      · exact q.elim
    · exact q.elim
  · exact q.elim

/-! built-in methods -/
abbrev QM := D → List D → Mp → QK → Prop
def lowMt (K : PySem.W.Frag) (r : QM) : V → List V → Hp → VK → Prop := fun x vs H Q => ∃ d ds M Qd, Rep K H x d ∧ Reps K H vs ds ∧ RepM K H M ∧ r d ds M Qd ∧ ∀ v d H' M', HExt H H' → RepM K H' M' → Rep K H' v d → Qd d M' → Q v H'
def MtQ (X : Cx) (id : String) (r : QM) : Prop := MtR X id (lowMt X.K r)
/-- is of the type -/
def isTy (Ty : String) (d : D) (M : Mp) : Prop := match d with
  | .str _ => Ty = "str"
  | .ref a => tyO (M a) = some Ty
  | _ => False
theorem isTy_ok {K : PySem.W.Frag} {H : Hp} {M : Mp} {x : V} {d : D} {Ty : String} (m : RepM K H M) (r : Rep K H x d) (h : isTy Ty d M) : tyV K Ty x H := by
  cases d with
  | str z => rw [Rep] at r; subst r; exact h
  | ref a =>
    rw [Rep] at r
    subst r
    have h : tyO (M a) = some Ty := h
    cases e : M a with
    | none => rw [e] at h; cases h
    | some o =>
      rw [e] at h
      cases o with
      | lst xs =>
        obtain ⟨vs, s1, _⟩ := m _ _ e
        cases h
        exact .inl ⟨rfl, _, SqL.of s1⟩
      | dic xs =>
        obtain ⟨vs, s1, _⟩ := m _ _ e
        cases h
        exact .inr (.inr (.inl ⟨rfl, .inl ⟨_, s1⟩⟩))
      | ins _ _ _ => cases h
  | _ => exact (show False from h).elim
def qBM (Ty : String) (r : QM) (to : QE) (t : QA) : QE := fun ρ M Q E => to ρ M (fun x M1 => isTy Ty x M1 ∧ t ρ M1 (fun ds M2 => r x ds M2 Q) E) E
def qBM0 (Ty : String) (r : QM) (to : QE) : QE := fun ρ M Q E => to ρ M (fun x M1 => isTy Ty x M1 ∧ r x [] M1 Q) E
variable {name : Str} {cpos : Pos} {rm : QM}
theorem q_bm (pa : PlainAttrs Ty) (slot : Slot Ty name id) (hty : typeOf (.builtin id) = pure (.type "method_descriptor")) (hm : MtQ X id rm) (ho : QPE X T W o te) (ha : QPA X T W (e :: es) t)
    (hbase : attributeBase o name X.env (eval o X.env) = eval o X.env := by rfl)
    (hfew : ((backTo cpos (starEach (e :: es) X.env)).all (fun x => !x.1) && (backToKw cpos (keywordEach [] X.env)).all (fun x => x.1.isSome)
      && decide ((e :: es).length + ([] : List Keyword).length + (if ([] : List Keyword).isEmpty then 0 else 1) < 30)) = true := by rfl)
    (hline : (apos.endLine == cpos.line) = true := by rfl) (hs : starEach (e :: es) X.env = (false, eval e X.env) :: starEach es X.env := by rfl) (hplain : (backTo cpos (starEach es X.env)).any (·.1) = false := by rfl) :
    QPE X T W (.Call (.Attribute o name apos) (e :: es) [] cpos) (qBM Ty rm te t) := ⟨(tpe_bm pa slot hty hm ho.pe ha.pa hbase hfew hline hs hplain).impD fun σ H Q h => by
  obtain ⟨ρ, M, Qd, E, hs, hm, ht, hq, hx⟩ := h
  refine ⟨ρ, M, _, E, hs, hm, ht, fun v d H1 M1 e1 m1 r1 q1 => ⟨isTy_ok m1 r1 q1.1, ?_⟩, hx⟩
  exact ⟨ρ, M1, _, E, hs.ext e1, m1, q1.2, fun vs ds H2 M2 e2 m2 r2 q2 => ⟨d, ds, M2, Qd, Rep.ext e2 _ _ r1, r2, m2, q2, fun v d H' M' e3 => hq v d H' M' ((e1.trans e2).trans e3)⟩, hx.ext e1⟩⟩
theorem q_bm0 (pa : PlainAttrs Ty) (slot : Slot Ty name id) (hty : typeOf (.builtin id) = pure (.type "method_descriptor")) (hm : MtQ X id rm) (ho : QPE X T W o te)
    (hbase : attributeBase o name X.env (eval o X.env) = eval o X.env := by rfl) (hline : (apos.endLine == cpos.line) = true := by rfl) :
    QPE X T W (.Call (.Attribute o name apos) [] [] cpos) (qBM0 Ty rm te) := ⟨(tpe_bm0 pa slot hty hm ho.pe hbase hline).impD fun σ H Q h => by
  obtain ⟨ρ, M, Qd, E, hs, hm, ht, hq, hx⟩ := h
  refine ⟨ρ, M, _, E, hs, hm, ht, fun v d H1 M1 e1 m1 r1 q1 => ⟨isTy_ok m1 r1 q1.1, ?_⟩, hx⟩
  exact ⟨d, [], M1, Qd, r1, reps_nil, m1, q1.2, fun v d H' M' e3 => hq v d H' M' (e1.trans e3)⟩⟩
/-- xs.append(y) -/
def rAppend : QM := fun o ds M Q => match o, ds with
  | .ref l, [y] => match M l with
    | some (.lst xs) => xs.length < sizeLine ∧ Q .non (updM M l (.lst (xs ++ [y])))
    | _ => False
  | _, _ => False
theorem m_append : MtQ X "list.append" rAppend := by
  intro pins s σ H x xs v us Q I rx rs h
  obtain ⟨d, ds, M, Qd, r1, r2, m, q, k⟩ := h
  unfold rAppend at q
  split at q
  · rename_i l y
    obtain ⟨w, rfl, h2⟩ := reps1 r2
    rw [Rep] at r1
    subst r1
    split at q
    · rename_i ys e
      obtain ⟨vs, s1, t1⟩ := m _ _ e
      refine mt_append pins s σ H _ _ v us Q I rx rs ⟨l, vs, w, rfl, rfl, s1, by rw [t1.length]; exact q.1, ?_⟩
      have ex : HExt H (upd H l (.lst (vs ++ [w]))) := m.extM e
      exact k _ _ _ _ ex (m.set (u := .lst (ys ++ [y])) e ⟨_, upd_same, (Reps.ext ex _ _ t1).append (reps_cons (Rep.ext ex _ _ h2) reps_nil)⟩) (by rw [Rep]) q.2
    · exact q.elim
  · exact q.elim
/-- xs.pop() -/
def rPop : QM := fun o ds M Q => match o, ds with
  | .ref l, [] => match M l with
    | some (.lst xs) => match xs[xs.length - 1]? with
      | some y => Q y (updM M l (.lst xs.dropLast))
      | none => False
    | _ => False
  | _, _ => False
theorem Reps.dropLast {K : PySem.W.Frag} {H : Hp} {ds : List D} {vs : List V} (h : Reps K H vs ds) : Reps K H vs.dropLast ds.dropLast := by
  rw [List.dropLast_eq_take, List.dropLast_eq_take, h.length]
  exact h.take _
theorem m_pop : MtQ X "list.pop" rPop := by
  intro pins s σ H x xs v us Q I rx rs h
  obtain ⟨d, ds, M, Qd, r1, r2, m, q, k⟩ := h
  unfold rPop at q
  split at q
  · rename_i l
    cases reps_inv0 r2
    rw [Rep] at r1
    subst r1
    split at q
    · rename_i ys e
      obtain ⟨vs, s1, t1⟩ := m _ _ e
      split at q
      · rename_i y ey
        obtain ⟨w, hw, rw'⟩ := t1.get ey
        refine mt_pop pins s σ H _ _ v us Q I rx rs ⟨l, vs, w, rfl, rfl, s1, by rw [t1.length]; exact hw, ?_⟩
        have ex : HExt H (upd H l (.lst vs.dropLast)) := m.extM e
        exact k _ _ _ _ ex (m.set (u := .lst ys.dropLast) e ⟨_, upd_same, Reps.ext ex _ _ t1.dropLast⟩) (Rep.ext ex _ _ rw') q
      · exact q.elim
    · exact q.elim
  · exact q.elim
/-! texts -/
def rFind3 : QM := fun o ds M Q => match o, ds with
  | .str a, [.str b, .int i] => Q (.int (Txt.find3 ⟨a.toArray⟩ ⟨b.toArray⟩ i)) M
  | _, _ => False
theorem reps2i {K : PySem.W.Frag} {H : Hp} {vs : List V} {d f : D} (h : Reps K H vs [d, f]) : ∃ v w, vs = [v, w] ∧ Rep K H v d ∧ Rep K H w f := reps2 h
theorem m_find3 : MtQ X "str.find" rFind3 := by
  intro pins s σ H x xs v us Q I rx rs h
  obtain ⟨d, ds, M, Qd, r1, r2, m, q, k⟩ := h
  unfold rFind3 at q
  split at q
  · obtain ⟨w1, w2, rfl, h1, h2⟩ := reps2 r2
    rw [Rep] at r1 h1
    rw [Rep] at h2
    subst r1
    subst h1
    subst h2
    exact mt_find3 pins s σ H _ _ v us Q I rx rs ⟨_, _, _, rfl, rfl, k _ _ H M (HExt.refl H) m (by rw [Rep]) q⟩
  · exact q.elim
def rCount : QM := fun o ds M Q => match o, ds with
  | .str a, [.str b] => Q (.int (Txt.count ⟨a.toArray⟩ ⟨b.toArray⟩)) M
  | _, _ => False
theorem m_count : MtQ X "str.count" rCount := by
  intro pins s σ H x xs v us Q I rx rs h
  obtain ⟨d, ds, M, Qd, r1, r2, m, q, k⟩ := h
  unfold rCount at q
  split at q
  · obtain ⟨w1, rfl, h1⟩ := reps1 r2
    rw [Rep] at r1 h1
    subst r1
    subst h1
    exact mt_count pins s σ H _ _ v us Q I rx rs ⟨_, _, rfl, rfl, k _ _ H M (HExt.refl H) m (by rw [Rep]) q⟩
  · exact q.elim
def rIsdigit : QM := fun o ds M Q => match o, ds with
  | .str a, [] => Q (.bl (Txt.isdigit ⟨a.toArray⟩)) M
  | _, _ => False
theorem m_isdigit : MtQ X "str.isdigit" rIsdigit := by
  intro pins s σ H x xs v us Q I rx rs h
  obtain ⟨d, ds, M, Qd, r1, r2, m, q, k⟩ := h
  unfold rIsdigit at q
  split at q
  · cases reps_inv0 r2
    rw [Rep] at r1
    subst r1
    exact mt_isdigit pins s σ H _ _ v us Q I rx rs ⟨_, rfl, rfl, trivial, k _ _ H M (HExt.refl H) m (by rw [Rep]) q⟩
  · exact q.elim
end
end DL
end

section
set_option Elab.async false
set_option linter.all false
set_option maxRecDepth 100000
set_option maxHeartbeats 2000000
namespace DL
open PySem PySem.Spec PyProof.Rows L2

/-! ### loops -/
/-- items, and the list they are taken from, if it is one that may change -/
abbrev QI := PSt → Mp → (List D → Option Addr → Mp → Prop) → QX → Prop
def okG (g : Option Addr) (all : List D) (M : Mp) : Prop := match g with
  | none => True
  | some p => M p = some (.lst all)
structure ItD (K : PySem.W.Frag) (J : It) (items : List D) (gd : Option Addr) (H1 : Hp) : Prop where
  go : ∀ i H M, HExt H1 H → RepM K H M → okG gd items M → i < items.length → J.go i H
  stop : ∀ i H M, HExt H1 H → RepM K H M → okG gd items M → items.length ≤ i → J.stop i H
  yld : ∀ i H M x H', HExt H1 H → RepM K H M → okG gd items M → J.yld i H x H' → ∀ d, items[i]? = some d → HExt H H' ∧ RepM K H' M ∧ Rep K H' x d
def lowI (K : PySem.W.Frag) (W : WX) (t : QI) : TI := fun σ H R => ∃ ρ M Qd E, RepS K H σ ρ ∧ RepM K H M ∧ t ρ M Qd E ∧
  (∀ J items gd H' M', HExt H H' → RepM K H' M' → ItD K J items gd H' → Qd items gd M' → R J H') ∧ okX K W σ H E
structure QPI (X : Cx) (T : Nat) (W : WX) (tg iter : Expr) (t : QI) : Prop where
  pi : TPI X T tg iter (lowI X.K W t)
/-- the turns -/
def qForL (gd : Option Addr) (all : List D) (g : QG) (tb : QS) : List D → QS
  | [] => fun B ρ M => okG gd all M ∧ B.nx ρ M
  | d :: r => fun B ρ M => okG gd all M ∧ g d ρ M fun ρ' M' => tb { B with nx := fun ρ2 M2 => qForL gd all g tb r B ρ2 M2, ct := fun ρ2 M2 => qForL gd all g tb r B ρ2 M2, bk := B.nx } ρ' M'
def qFor (ti : QI) (g : QG) (tb : QS) : QS := fun B ρ M => ti ρ M (fun items gd M1 => qForL gd items g tb items B ρ M1) (B.ex ρ)
theorem qForL_ok {gd : Option Addr} {all rest : List D} {g : QG} {tb : QS} {B : QB} {ρ : PSt} {M : Mp} (h : qForL gd all g tb rest B ρ M) : okG gd all M := by
  cases rest with
  | nil => exact h.1
  | cons d r => exact h.1
section
variable {X : Cx} {T : Nat} {W : WX} {pos : Pos}
theorem s_for {iter tg : Expr} {body : List Stmt} {ti : QI} {g : QG} {tb : QS} (hp : PassesOwn (model X.prog X.w) X.A X.env X.xe) (hc : X.calm = true) (hi : QPI X T W tg iter ti) (hg : QPG X T tg g) (hb : QPSs X T W body tb) (hs : ∀ x, foldedSetIterable iter X.env x = pure x := by intro _; rfl) :
    QPS X T W (.For tg iter body [] pos) (qFor ti g tb) := ⟨(tps_for hp hc hi.pi hg.pg hb.ps hs).impD fun Dn σ H h => by
  obtain ⟨ρ, M, B, hS, hM, ht, ok⟩ := h
  refine ⟨ρ, M, _, B.ex ρ, hS, hM, ht, fun J items gd H1 M1 e1 m1 hJ q1 => ?_, ok.okX hS⟩
  refine ⟨fun i m σ' H' => ∃ ρ' M', HExt H1 H' ∧ RepS X.K H' σ' ρ' ∧ RepM X.K H' M' ∧ m = items.length - i ∧ i ≤ items.length ∧ qForL gd items g tb (items.drop i) B ρ' M', ⟨items.length, ρ, M1, HExt.refl _, hS.ext e1, m1, by simp, Nat.zero_le _, by simpa using q1⟩, ?_⟩
  rintro i m σ' H' ⟨ρ', M', e2, s2, m2, rfl, hi', q2⟩
  by_cases hlt : i < items.length
  · refine .inr ⟨hJ.go i H' M' e2 m2 (qForL_ok q2) hlt, fun σ3 H3 => ∃ ρ3 M3, HExt H1 H3 ∧ RepS X.K H3 σ3 ρ3 ∧ RepM X.K H3 M3 ∧ qForL gd items g tb (items.drop (i + 1)) B ρ3 M3, fun σ3 H3 ⟨ρ3, M3, a1, a2, a3, a4⟩ => ⟨items.length - (i + 1), by omega, ρ3, M3, a1, a2, a3, rfl, hlt, a4⟩, fun x H3 y => ?_⟩
    obtain ⟨d, hd⟩ : ∃ d, items[i]? = some d := ⟨_, List.getElem?_eq_getElem hlt⟩
    obtain ⟨e3, m3, r3⟩ := hJ.yld i H' M' x H3 e2 m2 (qForL_ok q2) y d hd
    rw [List.drop_eq_getElem_cons hlt] at q2
    have hd' : items[i] = d := by rw [List.getElem?_eq_getElem hlt] at hd; exact Option.some.inj hd
    rw [hd'] at q2
    refine ⟨d, ρ', M', _, r3, s2.ext e3, m3, q2.2, fun σ4 ρ4 H4 M4 e4 s4 m4 q4 => ⟨ρ4, M4, _, s4, m4, q4, ?_⟩⟩
    have okB := ok.ext (e1.trans ((e2.trans e3).trans e4))
    exact ⟨fun σ5 ρ5 H5 M5 e5 s5 m5 q5 => ⟨ρ5, M5, (e2.trans e3).trans (e4.trans e5), s5, m5, q5⟩, okB.nx, fun σ5 ρ5 H5 M5 e5 s5 m5 q5 => ⟨ρ5, M5, (e2.trans e3).trans (e4.trans e5), s5, m5, q5⟩, okB.rt, okB.ex⟩
  · have e : items.length ≤ i := by omega
    rw [List.drop_eq_nil_of_le e] at q2
    exact .inl ⟨hJ.stop i H' M' e2 m2 (qForL_ok q2) e, ok.nx σ' ρ' H' M' (e1.trans e2) s2 m2 q2.2⟩⟩
/-- while: by an invariant of one's own -/
def qWhile (c : QT) (tb : QS) : QS := fun B ρ M => ∃ Wd : Nat → PSt → Mp → Prop, (∃ m, Wd m ρ M) ∧ ∀ m ρ M, Wd m ρ M → c ρ M (fun b M1 => match b with
    | true => ∃ N : PSt → Mp → Prop, (∀ ρ' M', N ρ' M' → ∃ m', m' < m ∧ Wd m' ρ' M') ∧ tb { B with nx := N, ct := N, bk := B.nx } ρ M1
    | false => B.nx ρ M1) (B.ex ρ)
theorem s_while {c : Expr} {body : List Stmt} {tc : QT} {tb : QS} (hp : PassesOwn (model X.prog X.w) X.A X.env X.xe) (hc : QPT X T W c tc) (hb : QPSs X T W body tb) : QPS X T W (.While c body [] pos) (qWhile tc tb) := ⟨(tps_while hp hc.pt hb.ps).impD fun Dn σ H h => by
  obtain ⟨ρ, M, B, hS, hM, ⟨Wd, ⟨m0, w0⟩, turn⟩, ok⟩ := h
  refine ⟨fun m σ' H' => ∃ ρ' M', HExt H H' ∧ RepS X.K H' σ' ρ' ∧ RepM X.K H' M' ∧ Wd m ρ' M', ⟨m0, ρ, M, HExt.refl H, hS, hM, w0⟩, ?_⟩
  rintro m σ1 H1 ⟨ρ1, M1, e1, s1, m1, w1⟩
  refine ⟨ρ1, M1, _, B.ex ρ1, s1, m1, turn m ρ1 M1 w1, fun b d H2 M2 e2 m2 r2 q2 => ?_, (ok.ext e1).okX s1⟩
  subst r2
  cases b with
  | true =>
    obtain ⟨N, hN, q3⟩ := q2
    have okB := ok.ext (e1.trans e2)
    rw [if_pos rfl]
    refine ⟨fun σ3 H3 => ∃ ρ3 M3, HExt H H3 ∧ RepS X.K H3 σ3 ρ3 ∧ RepM X.K H3 M3 ∧ N ρ3 M3, fun σ3 H3 ⟨ρ3, M3, a1, a2, a3, a4⟩ => ?_, ρ1, M2, _, s1.ext e2, m2, q3, ?_⟩
    · obtain ⟨m', hm, w'⟩ := hN ρ3 M3 a4
      exact ⟨m', hm, ρ3, M3, a1, a2, a3, w'⟩
    · exact ⟨fun σ5 ρ5 H5 M5 e5 s5 m5 q5 => ⟨ρ5, M5, (e1.trans e2).trans e5, s5, m5, q5⟩, okB.nx, fun σ5 ρ5 H5 M5 e5 s5 m5 q5 => ⟨ρ5, M5, (e1.trans e2).trans e5, s5, m5, q5⟩, okB.rt, okB.ex⟩
  | false =>
    rw [if_neg Bool.false_ne_true]
    exact ok.nx σ1 ρ1 H2 M2 (e1.trans e2) (s1.ext e2) m2 q2⟩

/-! ### iterables -/
def qIter (te : QE) : QI := fun ρ M Q E => te ρ M (fun x M1 => match x with
  | .ref p => match M1 p with
    | some (.lst xs) => Q xs (some p) M1
    | _ => False
  | .tup xs => Q xs none M1
  | .fl xs => Q xs none M1
  | .str z => Q (z.map fun c => .str [c]) none M1
  | _ => False) E
/-- what list, tuple or text an expression has -/
def iAny (K : PySem.W.Frag) (tl : TE) : TI := fun σ H R => tl σ H fun x H1 => (∃ a, x = .ref a ∧ (∃ xs, SqL K H1 a xs) ∧ R (Itl K a) H1) ∨ (∃ a, x = .ref a ∧ (∃ xs, SqT K H1 a xs) ∧ R (Itt K a) H1) ∨ ∃ z, x = .str z ∧ R (Its z) H1
theorem tpi_any {tg l : Expr} {tx : TE} (hl : TPE X T l tx) : TPI X T tg l (iAny X.K tx) := ⟨fun pins s σ H R I k h =>
  thn (hl.run pins s σ H _ I k h) fun v s1 ⟨x, H1, I1, r1, q⟩ => by
    rcases q with ⟨a, rfl, ⟨xs, hq⟩, q⟩ | ⟨a, rfl, ⟨xs, hq⟩, q⟩ | ⟨z, rfl, q⟩
    · cases r1
      obtain ⟨its, rv, p, hz⟩ := I1.list hq
      refine wpAny_pyIter_list p.isList ⟨s1.heap.objs.size, [s1.heap.objs.size], _, _, H1, rfl, I1.kept (t' := s1.toks) fun b o e => Heap.get?_push_of_some _ e, turn_list a _, ⟨_, Heap.get?_push_size _ rfl, rfl, rfl⟩, fun b hb => ?_, q⟩
      cases List.mem_singleton.mp hb
      exact I1.fpOk (Nat.le_refl _) (I1.hok.fresh (Nat.le_refl _))
    · cases r1
      obtain ⟨its, rv, p, hz⟩ := I1.tuple hq
      refine wpAny_pyIter_tuple (show s1.heap.IsTuple a its.toArray from p) ⟨s1.heap.objs.size, [s1.heap.objs.size], _, _, H1, rfl, I1.kept (t' := s1.toks) fun b o e => Heap.get?_push_of_some _ e, turn_tuple a _, ⟨_, Heap.get?_push_size _ rfl, rfl, rfl⟩, fun b hb => ?_, q⟩
      cases List.mem_singleton.mp hb
      exact I1.fpOk (Nat.le_refl _) (I1.hok.fresh (Nat.le_refl _))
    · obtain ⟨t, rfl⟩ := r1
      cases ha : z.cps.all (· < 128)
      · exact wpAny_pyIter_wide ha (pi_one (tk := s1.toks) I1 _ (turn_str _ z t "str_iterator" (.inr rfl)) ⟨_, Heap.get?_push_size _ rfl, rfl, rfl⟩ q)
      · exact wpAny_pyIter_ascii ha (pi_one (tk := s1.toks) I1 _ (turn_str _ z t "str_ascii_iterator" (.inl rfl)) ⟨_, Heap.get?_push_size _ rfl, rfl, rfl⟩ q)⟩
theorem itd_lst {K : PySem.W.Frag} {H1 : Hp} {p : Addr} {xs : List D} : ItD K (Itl K p) xs (some p) H1 := by
  have key : ∀ {H M}, RepM K H M → okG (some p) xs M → ∃ vs, SqL K H p vs ∧ Reps K H vs xs := fun {H M} m k => by
    obtain ⟨vs, h1, h2⟩ := m p (.lst xs) k
    exact ⟨vs, .inl (.inl h1), h2⟩
  refine ⟨fun i H M e m k hi => ?_, fun i H M e m k hi => ?_, fun i H M x H' e m k y d hd => ?_⟩
  · obtain ⟨vs, h1, h2⟩ := key m k
    obtain ⟨v, h3, _⟩ := h2.get (List.getElem?_eq_getElem hi)
    exact ⟨vs, v, h1, h3⟩
  · obtain ⟨vs, h1, h2⟩ := key m k
    exact ⟨vs, h1, by rw [h2.length]; exact hi⟩
  · obtain ⟨vs, h1, h2⟩ := key m k
    obtain ⟨rfl, y⟩ := y
    obtain ⟨v, h3, h4⟩ := h2.get hd
    have h5 := y vs h1
    rw [h3] at h5
    cases h5
    exact ⟨HExt.refl _, m, h4⟩
theorem itd_fix {K : PySem.W.Frag} {H1 : Hp} {J : It} {vs : List V} {xs : List D} (r : Reps K H1 vs xs) (go : ∀ i H v, HExt H1 H → vs[i]? = some v → J.go i H) (stop : ∀ i H, HExt H1 H → vs.length ≤ i → J.stop i H)
    (yld : ∀ i H x H', HExt H1 H → J.yld i H x H' → H' = H ∧ ∀ v, vs[i]? = some v → v = x) : ItD K J xs none H1 := by
  refine ⟨fun i H M e m k hi => ?_, fun i H M e m k hi => ?_, fun i H M x H' e m k y d hd => ?_⟩
  · obtain ⟨v, h3, _⟩ := r.get (List.getElem?_eq_getElem hi)
    exact go i H v e h3
  · exact stop i H e (by rw [r.length]; exact hi)
  · obtain ⟨rfl, y2⟩ := yld i H x H' e y
    obtain ⟨v, h3, h4⟩ := r.get hd
    cases y2 v h3
    exact ⟨HExt.refl _, m, Rep.ext e _ _ h4⟩
theorem sqt_one {K : PySem.W.Frag} {H : Hp} {a : Addr} {xs ys : List V} {i : Nat} {x : V} (y : ∀ xs, SqT K H a xs → xs[i]? = some x) (h : SqT K H a xs) (v : V) (e : xs[i]? = some v) : v = x := by
  have := y xs h
  rw [e] at this
  exact Option.some.inj this
theorem i_any {tg l : Expr} {te : QE} (hl : QPE X T W l te) : QPI X T W tg l (qIter te) := ⟨(tpi_any hl.pe).impD fun σ H R h => by
  obtain ⟨ρ, M, Qd, E, hS, hM, ht, hq, hx⟩ := h
  refine ⟨ρ, M, _, E, hS, hM, ht, fun v d H1 M1 e1 m1 r1 q1 => ?_, hx⟩
  cases d with
  | ref p =>
    rw [Rep] at r1
    subst r1
    dsimp only at q1
    cases e : M1 p with
    | none => rw [e] at q1; exact q1.elim
    | some o =>
      rw [e] at q1
      cases o with
      | lst xs =>
        obtain ⟨vs, h1, h2⟩ := m1 p (.lst xs) e
        exact .inl ⟨p, rfl, ⟨vs, .inl (.inl h1)⟩, hq _ _ _ H1 M1 e1 m1 itd_lst q1⟩
      | _ => exact q1.elim
  | tup xs =>
    rw [Rep] at r1
    obtain ⟨a, vs, rfl, h1, h2⟩ := r1
    refine .inr (.inl ⟨a, rfl, ⟨vs, h1⟩, hq _ _ none H1 M1 e1 m1 (itd_fix h2 (fun i H v e q => ⟨vs, v, e.sqt h1, q⟩) (fun i H e q => ⟨vs, e.sqt h1, q⟩) fun i H x H' e y => ⟨y.1, fun v q => ?_⟩) q1⟩)
    have := y.2 vs (e.sqt h1)
    rw [q] at this
    exact Option.some.inj this
  | fl xs =>
    rw [Rep] at r1
    obtain ⟨a, vs, rfl, h1, h2⟩ := r1
    have up : ∀ {H : Hp}, HExt H1 H → SqL X.K H a vs := fun {H} e => flL (h1.imp (fun ⟨o, z⟩ => ⟨o, e.frz _ _ _ z⟩) id)
    refine .inl ⟨a, rfl, ⟨vs, up (HExt.refl _)⟩, hq _ _ none H1 M1 e1 m1 (itd_fix h2 (fun i H v e q => ⟨vs, v, up e, q⟩) (fun i H e q => ⟨vs, up e, q⟩) fun i H x H' e y => ⟨y.1, fun v q => ?_⟩) q1⟩
    have := y.2 vs (up e)
    rw [q] at this
    exact Option.some.inj this
  | str z =>
    rw [Rep] at r1
    subst r1
    refine .inr (.inr ⟨_, rfl, hq _ _ none H1 M1 e1 m1 (itd_fix (vs := z.map fun c => V.str ⟨#[c]⟩) ?_ ?_ ?_ ?_) q1⟩)
    · clear q1
      induction z with
      | nil => exact reps_nil
      | cons c z ih => exact reps_cons (by rw [Rep]) ih
    · intro i H v e q
      have := (List.getElem?_eq_some_iff.mp q).1
      rw [List.length_map] at this
      exact (show i < (z.toArray).size by simpa using this)
    · intro i H e q
      rw [List.length_map] at q
      exact (show (z.toArray).size ≤ i by simpa using q)
    · rintro i H x H' e ⟨rfl, c, hc, rfl⟩
      refine ⟨rfl, fun v q => ?_⟩
      have hc : z.toArray[i]? = some c := hc
      rw [List.getElem?_toArray] at hc
      rw [List.getElem?_map, hc] at q
      exact (Option.some.inj q).symm
  | _ => exact q1.elim⟩
/-- range -/
def rng (lo : Int) : Nat → List D
  | 0 => []
  | n + 1 => .int lo :: rng (lo + 1) n
theorem rng_length : ∀ (n : Nat) (lo : Int), (rng lo n).length = n
  | 0, _ => rfl
  | n + 1, lo => by show (rng (lo + 1) n).length + 1 = n + 1; rw [rng_length]
theorem rng_get : ∀ (n : Nat) (lo : Int) (i : Nat) (d : D), (rng lo n)[i]? = some d → d = .int (lo + i)
  | 0, _, i, d, h => by simp [rng] at h
  | n + 1, lo, 0, d, h => by
    simp [rng] at h
    rw [← h]; simp
  | n + 1, lo, i + 1, d, h => by
    have h : (rng (lo + 1) n)[i]? = some d := by simpa [rng] using h
    rw [rng_get n (lo + 1) i d h]
    congr 1
    omega
theorem itd_rng {K : PySem.W.Frag} {H1 : Hp} {lo : Int} {n : Nat} : ItD K (Itr lo n) (rng lo n) none H1 := by
  refine ⟨fun i H M e m k hi => ?_, fun i H M e m k hi => ?_, fun i H M x H' e m k y d hd => ?_⟩
  · rw [rng_length] at hi; exact hi
  · rw [rng_length] at hi; exact hi
  · obtain ⟨rfl, rfl⟩ := y
    rw [rng_get n lo i d hd]
    exact ⟨HExt.refl _, m, by rw [Rep]⟩
def qRng1 (ta : QA) : QI := fun ρ M Q E => ta ρ M (fun ds M1 => match ds with
  | [.int j] => -(2 ^ 62) ≤ j ∧ j < 2 ^ 62 ∧ Q (rng 0 j.toNat) none M1
  | _ => False) E
def qRng2 (ta : QA) : QI := fun ρ M Q E => ta ρ M (fun ds M1 => match ds with
  | [.int i, .int j] => (-(2 ^ 62) ≤ i ∧ i < 2 ^ 62 ∧ -(2 ^ 62) ≤ j ∧ j < 2 ^ 62) ∧ Q (rng i (j - i).toNat) none M1
  | _ => False) E
theorem i_rng1 {tg a : Expr} {ta : QA} {p : Pos} (hg : Gl X "range") (hm : X.mg "range" = none) (ha : QPA X T W [a] ta) (hs : starEach [a] X.env = [(false, eval a X.env)] := by rfl) : QPI X T W tg (.Call (.Name "range" p) [a] [] pos) (qRng1 ta) := ⟨(tpi_range1 hg hm ha.pa hs).impD fun σ H R h => by
  obtain ⟨ρ, M, Qd, E, hS, hM, ht, hq, hx⟩ := h
  refine ⟨ρ, M, _, E, hS, hM, ht, fun vs ds H1 M1 e1 m1 r1 q1 => ?_, hx⟩
  split at q1
  · obtain ⟨v, rfl, h1⟩ := reps1 r1
    rw [Rep] at h1
    subst h1
    exact ⟨_, rfl, q1.1, q1.2.1, hq _ _ _ H1 M1 e1 m1 itd_rng q1.2.2⟩
  · exact q1.elim⟩
theorem i_rng2 {tg a b : Expr} {ta : QA} {p : Pos} (hg : Gl X "range") (hm : X.mg "range" = none) (ha : QPA X T W [a, b] ta) (hs : starEach [a, b] X.env = [(false, eval a X.env), (false, eval b X.env)] := by rfl) (hs2 : starEach [b] X.env = [(false, eval b X.env)] := by rfl) :
    QPI X T W tg (.Call (.Name "range" p) [a, b] [] pos) (qRng2 ta) := ⟨(tpi_range2 hg hm ha.pa hs hs2).impD fun σ H R h => by
  obtain ⟨ρ, M, Qd, E, hS, hM, ht, hq, hx⟩ := h
  refine ⟨ρ, M, _, E, hS, hM, ht, fun vs ds H1 M1 e1 m1 r1 q1 => ?_, hx⟩
  split at q1
  · obtain ⟨v, w, rfl, h1, h2⟩ := reps2 r1
    rw [Rep] at h1 h2
    subst h1 h2
    exact ⟨_, _, rfl, q1.1, hq _ _ _ H1 M1 e1 m1 itd_rng q1.2⟩
  · exact q1.elim⟩
end
end DL
end

section
set_option Elab.async false
set_option linter.all false
set_option maxRecDepth 100000
set_option maxHeartbeats 2000000
namespace DL
open PySem PySem.Spec PyProof.Rows L2

/-! ### comprehensions -/
abbrev noW : WX := fun _ _ _ _ => False
def noX : QX := fun _ _ _ => False
def wiD (ρ : PSt) : List Nat → PSt
  | [] => ρ
  | v :: vs => st (wiD ρ vs) v none
theorem RepS.wipe {K : PySem.W.Frag} {H : Hp} {σ : L2.St} {ρ : PSt} (s : RepS K H σ ρ) : ∀ vs : List Nat, RepS K H (wipe σ vs) (wiD ρ vs)
  | [] => s
  | v :: vs => (RepS.wipe s vs).del
/-- targets that touch the block's own slots alone -/
def lowGo (K : PySem.W.Frag) (vs : List Nat) (g : QG) : TG := fun v σ H Q => ∃ d ρ M Qd, Rep K H v d ∧ RepS K H σ ρ ∧ RepM K H M ∧ g d ρ M Qd ∧ ∀ σ' ρ' H' M', HExt H H' → RepS K H' σ' ρ' → RepM K H' M' → wipe σ' vs = wipe σ vs → Qd ρ' M' → Q σ' H'
def lowGos (K : PySem.W.Frag) (vs : List Nat) (g : QGs) : TGs := fun v σ H Q => ∃ d ρ M Qd, Reps K H v d ∧ RepS K H σ ρ ∧ RepM K H M ∧ g d ρ M Qd ∧ ∀ σ' ρ' H' M', HExt H H' → RepS K H' σ' ρ' → RepM K H' M' → wipe σ' vs = wipe σ vs → Qd ρ' M' → Q σ' H'
structure QPGo (X : Cx) (T : Nat) (vs : List Nat) (e : Expr) (g : QG) : Prop where
  pg : TPG X T e (lowGo X.K vs g)
structure QPGos (X : Cx) (T : Nat) (vs : List Nat) (e : List Expr) (g : QGs) : Prop where
  pg : TPGs X T e (lowGos X.K vs g)
theorem wipe_set {σ : L2.St} {i : Nat} {o : Option V} : ∀ {vs : List Nat}, i ∈ vs → wipe (σ.set i o) vs = wipe σ vs
  | [], h => by simp at h
  | v :: vs, h => by
    by_cases hv : i ∈ vs
    · unfold wipe
      rw [wipe_set hv]
    · have e : i = v := by
        rcases List.mem_cons.mp h with e | e
        · exact e
        · exact absurd e hv
      subst e
      clear h
      unfold wipe
      have key : ∀ (σ : L2.St) (vs : List Nat), (wipe (σ.set i o) vs).set i none = (wipe σ vs).set i none := by
        intro σ vs
        induction vs with
        | nil => unfold wipe; rw [List.set_set]
        | cons u us ih =>
          unfold wipe
          by_cases hu : u = i
          · subst hu
            rw [List.set_set, List.set_set]
            exact ih
          · rw [List.set_comm _ _ hu, List.set_comm _ _ hu, ih]
      exact key σ vs
section
variable {X : Cx} {T : Nat} {W : WX} {pos : Pos} {vs : List Nat}
theorem go_name {i : Nat} {x : Str} (hN : X.N.Nodup) (hi : X.N[i]? = some x) (hx : Loc X.env.scope x) (hv : i ∈ vs) (hf : X.fn x = true ∨ X.env.scope.names.lookup x = some .local := by first | exact .inl rfl | exact .inr rfl | assumption) : QPGo X T vs (.Name x pos) (qgName i) :=
  ⟨(TPG.of (pg_name hN hi hx hf)).impD fun v σ H Q h => by
    obtain ⟨d, ρ, M, Qd, r, s, m, q, k⟩ := h
    exact k _ _ H M (HExt.refl H) (s.set r) m (wipe_set hv) q⟩
theorem gos_nil : QPGos X T vs [] qgNil := ⟨(TPGs.of pgs_nil).impD fun v σ H Q h => by
  obtain ⟨d, ρ, M, Qd, r, s, m, q, k⟩ := h
  cases d with
  | nil => exact ⟨reps_inv0 r, k _ _ H M (HExt.refl H) s m rfl q⟩
  | cons _ _ => exact (show False from q).elim⟩
theorem gos_cons {e : Expr} {es : List Expr} {g : QG} {gs : QGs} (h1 : QPGo X T vs e g) (h2 : QPGos X T vs es gs) (hs : (assignEach (e :: es) X.env).map (·.2) = assign e X.env :: (assignEach es X.env).map (·.2) := by rfl) : QPGos X T vs (e :: es) (qgCons g gs) := ⟨(tpgs_cons h1.pg h2.pg hs).impD fun v σ H Q h => by
  obtain ⟨d, ρ, M, Qd, r, s, m, q, k⟩ := h
  cases d with
  | nil => exact (show False from q).elim
  | cons d ds =>
    obtain ⟨w, ws, rfl, r1, r2⟩ := reps_inv r
    exact ⟨w, ws, rfl, d, ρ, M, _, r1, s, m, q, fun σ' ρ' H' M' e s' m' w1 q' => ⟨ds, ρ', M', Qd, Reps.ext e _ _ r2, s', m', q', fun σ2 ρ2 H2 M2 e2 s2 m2 w2 => k σ2 ρ2 H2 M2 (e.trans e2) s2 m2 (w2.trans w1)⟩⟩⟩
theorem go_tup {es : List Expr} {k : Nat} {gs : QGs} {n : Nat} (hc : X.calm = true) (h : QPGos X T vs es gs) (hn : (assignEach es X.env).length = n := by rfl) (hst : (assignEach es X.env).findIdx? (·.1) = none := by rfl) : QPGo X T vs (.Tuple es k pos) (qgTup n gs) :=
  ⟨(tpg_tup hc h.pg hn hst).impD fun v σ H Q h => by
    obtain ⟨d, ρ, M, Qd, r, s, m, q, k⟩ := h
    cases d with
    | tup xs =>
      rw [Rep] at r
      obtain ⟨a, vs, e1, s1, t1⟩ := r
      exact ⟨a, vs, e1, s1, by rw [t1.length]; exact q.1, xs, ρ, M, Qd, t1, s, m, q.2, k⟩
    | _ => exact (show False from q).elim⟩
/-- a clause's tests -/
structure QPTs (X : Cx) (T : Nat) (ifs : List Expr) (t : QT) : Prop where
  run : ∀ (pins : List (Addr × Obj)) (s : Shared) (σ : L2.St) (H : Hp) (Q : Bool → Hp → Prop), Inv X pins σ H s → T ≤ s.toks → lowT X.K noW t σ H Q →
    wpAny (model X.prog X.w) X.A (forIn ifs true fun c r => if r = true then do let ok ← isTrue c X.env (eval c X.env); pure (ForInStep.yield ok) else pure (ForInStep.yield r)) (TP X pins σ Q) X.xe s
def qYes : QT := fun _ M Q _ => Q true M
theorem ts_nil : QPTs X T [] qYes := ⟨fun _ _ _ H _ I _ h => wpAny_tests_nil ⟨H, I, low_ret (R := fun _ b c => b = c) rfl h⟩⟩
theorem ts_one {c : Expr} {t : QT} (h : QPT X T noW c t) : QPTs X T [c] t := ⟨fun pins s σ H Q I k hw => wpAny_tests_one (h.pt.run pins s σ H Q I k hw)⟩
/-- the turns; p: the new list -/
def qLcL (gd : Option Addr) (all : List D) (g : QG) (tt : QT) (te : QE) (p : Addr) (ρ : PSt) : List D → List D → Mp → QK → Prop
  | [], acc, M, Q => okG gd all M ∧ Q (.ref p) M
  | d :: r, acc, M, Q => okG gd all M ∧ g d ρ M fun ρ' M' => tt ρ' M' (fun b M2 => match b with
    | true => te ρ' M2 (fun y M3 => M3 p = some (.lst acc) ∧ acc.length < sizeLine ∧ qLcL gd all g tt te p ρ r (acc ++ [y]) (updM M3 p (.lst (acc ++ [y]))) Q) noX
    | false => qLcL gd all g tt te p ρ r acc M2 Q) noX
def qLc (ti : QI) (g : QG) (tt : QT) (te : QE) (vs : List Nat) : QE := fun ρ M Q E => ti ρ M (fun items gd M1 => ∀ p, M1 p = none → qLcL gd items g tt te p (wiD ρ vs) items [] (updM M1 p (.lst [])) Q) E
theorem qLcL_ok {gd : Option Addr} {all rest acc : List D} {g : QG} {tt : QT} {te : QE} {p : Addr} {ρ : PSt} {M : Mp} {Q : QK} (h : qLcL gd all g tt te p ρ rest acc M Q) : okG gd all M := by
  cases rest with
  | nil => exact h.1
  | cons d r => exact h.1
theorem lcF {α : Type} {t : Sem α} {Q Q' : α → Shared → Prop} {M : Model} {A : Around} {E : Value → Shared → Prop} {s : Shared} {T : Nat} (k : T ≤ s.toks) (h : wpAny M A t Q (fun _ _ => False) s) (hQ : ∀ a s, T ≤ s.toks → Q a s → Q' a s) : wpAny M A t Q' E s :=
  wpAny_mono (wpAny_toks_of k h) (fun a s z => hQ a s z.1 z.2) fun _ _ z => False.elim z.2
/-- the block of a list's comprehension -/
theorem q_lcCore {pins : List (Addr × Obj)} {s : Shared} {σ : L2.St} {H : Hp} {Q : VK} {elt tg iter : Expr} {ifs : List Expr} {scope : Scope} {own : List (Str × Nat)} {pos' : Pos} {ti : QI} {g : QG} {tt : QT} {te : QE} {use : Option (Value → Sem Unit)} {Qf : Value → Shared → Prop}
    (hc : X.calm = true) (hN : X.N.Nodup) (I : Inv X pins σ H s) (k0 : T ≤ s.toks) (hi : QPI X T W tg iter ti) (ok : BlkOk X.N X.env.scope scope own)
    (hg : ∀ (s : Shared) (H : Hp) (C : Addr) (cl : List (Str × Addr)) (fp : List Addr), QPGo (X.blk s H scope (compEnvC scope cl C X.env) fp) T (own.map (·.2)) tg g)
    (ht : ∀ (s : Shared) (H : Hp) (C : Addr) (cl : List (Str × Addr)) (fp : List Addr), QPTs (X.blk s H scope (compEnvC scope cl C X.env) fp) T ifs tt)
    (he : ∀ (s : Shared) (H : Hp) (C : Addr) (cl : List (Str × Addr)) (fp : List Addr), QPE (X.blk s H scope (compEnvC scope cl C X.env) fp) T noW elt te) (hs : ∀ x, foldedSetIterable iter X.env x = pure x)
    (h : lowE X.K W (qLc ti g tt te (own.map (·.2))) σ H Q)
    (hRR : ∀ L C s' m H', Inv X pins σ H' s' → Q (.ref L) H' → s'.heap.Ns C m → FpOk X pins H' C → compPost (model X.prog X.w) X.A X.xe use Qf (.ref L) C (.ok .next) s') :
    wpAny (model X.prog X.w) X.A (comprehension (.ListComp elt [⟨tg, iter, ifs, 0⟩] scope pos) scope X.env pos' (newList []) false (eval iter X.env) use) Qf X.xe s := by
  generalize hvs : own.map (·.2) = vs at *
  obtain ⟨ρ, M, Qd, E, hS, hM, hrd, hq, hx⟩ := h
  have hfree : ∀ y ∈ scope.names, y.2 = .free → ∃ c, X.env.cells.lookup y.1 = some c := fun y hy e => (ok.free y hy e).elim (fun z => I.ok.has _ (.inl z)) fun z => I.ok.has _ (.inr z)
  have hin : lowI X.K W ti σ H (fun J H1 => ∃ items gd M1 ρ1, HExt H H1 ∧ RepS X.K H1 σ ρ1 ∧ RepM X.K H1 M1 ∧ ItD X.K J items gd H1 ∧ ∀ p, M1 p = none → qLcL gd items g tt te p (wiD ρ1 vs) items [] (updM M1 p (.lst [])) Qd) :=
    ⟨ρ, M, _, E, hS, hM, hrd, fun J items gd H' M' e m j q => ⟨items, gd, M', ρ, e, hS.ext e, m, j, q⟩, hx⟩
  refine wpAny_comprehension_free (use := use) rfl hs (closure_ok hfree) ok.kind (fun y hy e => by rw [ok.uniq y hy, e]) (thT k0 (hi.pi.run pins s σ H _ I k0 hin) fun xv s1 k1 hxv => thT k1 hxv fun itv s2 k2 h2 => ?_)
  obtain ⟨it, fp, tn, J, H2, rfl, I2, Tn, st2, f2, items, gd, M2, ρ2, e02, hS2, hM2, hJ, q⟩ := h2
  refine wpAny_newObj_type (newEnv_comp ?_) (by show 0 ≤ sizeLine; decide)
  generalize hL : s2.heap.objs.size = L
  have hLn : H2 L = none := I2.hok.fresh (Nat.le_of_eq hL)
  have q := q L (hM2.free hLn)
  generalize hs3 : ({ s2 with heap := s2.heap.push { cls := .type "list", data := .seq ([] : List Value).toArray } } : Shared) = s3
  have k3 : T ≤ s3.toks := by rw [← hs3]; exact k2
  have h3 : s3.heap = s2.heap.push { cls := .type "list", data := .seq ([] : List Value).toArray } := by rw [← hs3]
  have I3 : Inv X pins σ (upd H2 L (.lst [])) s3 := by
    rw [← hs3]
    refine I2.laid (t' := s2.toks) (fun b o e => Heap.get?_push_of_some _ e) (Nat.le_of_eq hL) ⟨Nat.zero_le _, [], 0, .nil, ?_⟩
    rw [← hL]
    exact Heap.get?_push_size _ rfl
  have e23 : HExt H2 (upd H2 L (.lst [])) := HExt.new hLn
  have hM3 : RepM X.K (upd H2 L (.lst [])) (updM M2 L (.lst [])) := hM2.put (u := .lst []) hLn ⟨[], upd_same, reps_nil⟩
  have sz : ∀ b ∈ fp, b < s2.heap.objs.size := fun b hb => let ⟨o, e, _⟩ := Tn.obj _ _ st2 b hb; Heap.lt_size e
  have f3 : ∀ b ∈ fp, FpOk X pins (upd H2 L (.lst [])) b ∧ b < s3.heap.objs.size := fun b hb => by
    have hlt := sz b hb
    refine ⟨⟨?_, (f2 b hb).2⟩, by rw [h3, Heap.size_push]; exact Nat.lt_succ_of_lt hlt⟩
    rw [upd_ne (by rw [← hL]; exact Nat.ne_of_lt hlt)]
    exact (f2 b hb).1
  have st3 : tn 0 s3.heap := Tn.keep _ _ _ st2 fun b _ o e => by rw [h3]; exact Heap.get?_push_of_some _ e
  have I4 := block_start I3 ok hN f3
  have pg := (hg s3 (upd H2 L (.lst [])) s3.heap.objs.size (cellsFrom (s3.heap.objs.size + 1) scope.names (cloFrom X.env.cells scope.names [])) fp).pg
  have pt := ht s3 (upd H2 L (.lst [])) s3.heap.objs.size (cellsFrom (s3.heap.objs.size + 1) scope.names (cloFrom X.env.cells scope.names [])) fp
  have pe := (he s3 (upd H2 L (.lst [])) s3.heap.objs.size (cellsFrom (s3.heap.objs.size + 1) scope.names (cloFrom X.env.cells scope.names [])) fp).pe
  show codeAny _ _ (.compStart (.ListComp elt [⟨tg, iter, ifs, 0⟩] scope pos) 0 (.ref it) (.ref L) (compEnvC scope (cellsFrom (s3.heap.objs.size + 1) scope.names (cloFrom X.env.cells scope.names [])) s3.heap.objs.size X.env)) (compPost (model X.prog X.w) X.A X.xe use Qf (.ref L) s3.heap.objs.size) { s3 with heap := pushCells (s3.heap.push { cls := .type "dict", data := .dict #[] }) scope.names }
  have nfp : ∀ b ∈ fp, (upd H2 L (.lst [])) b = none := fun b hb => (f3 b hb).1.1
  generalize hce : compEnvC scope (cellsFrom (s3.heap.objs.size + 1) scope.names (cloFrom X.env.cells scope.names [])) s3.heap.objs.size X.env = ce at I4 pg pt pe ⊢
  have cL : ce.locals = s3.heap.objs.size := by subst hce; rfl
  generalize hH3 : upd H2 L (.lst []) = H3 at I3 I4 pg pt pe nfp f3 e23 hM3
  generalize hs4 : ({ s3 with heap := pushCells (s3.heap.push { cls := .type "dict", data := .dict #[] }) scope.names } : Shared) = s4 at I4 ⊢
  have k4 : T ≤ s4.toks := by rw [← hs4]; exact k3
  have st4 : tn 0 s4.heap := Tn.keep _ _ _ st3 fun b _ o e => by rw [← hs4]; exact pushCells_keeps _ _ _ _ (Heap.get?_push_of_some _ e)
  rw [hvs] at I4
  have again : ∀ {σ' : L2.St} {H' : Hp} {s' : Shared}, Inv (X.blk s3 H3 scope ce fp) [] σ' H' s' → (∀ b ∈ fp, H' b = none) → ∀ b ∈ fp, FpOk (X.blk s3 H3 scope ce fp) [] H' b := fun {σ' H' s'} I' hn b hb =>
    ⟨hn b hb, (I'.ok.exf b hb).1, I'.ok.exfs b hb, .inl hb, fun x c e => (I'.ok.exf b hb).2 x c e, fun p hp => absurd (show p ∈ ([] : List (Addr × Obj)) ++ [] from hp) (by simp)⟩
  have loop : codeAny (model X.prog X.w) X.A (.compLoop (.ListComp elt [⟨tg, iter, ifs, 0⟩] scope pos) 0 (.ref it) (.ref L) ce) (compPost (model X.prog X.w) X.A X.xe use Qf (.ref L) s3.heap.objs.size) s4 := by
    refine compLoop_any (fun n s' => ∃ i H' M' acc, T ≤ s'.toks ∧ Inv (X.blk s3 H3 scope ce fp) [] (wipe σ vs) H' s' ∧ tn i s'.heap ∧ (∀ b ∈ fp, H' b = none) ∧ HExt H2 H' ∧ RepM X.K H' M' ∧ n = items.length - i ∧ i ≤ items.length ∧ qLcL gd items g tt te L (wiD ρ2 vs) (items.drop i) acc M' Qd) ?_ items.length ⟨0, H3, _, [], k4, I4, st4, nfp, e23, hM3, by simp, Nat.zero_le _, q⟩
    rintro n s5 ⟨i, H5, M5, acc, k5, I5, st5, n5, e5, m5, rfl, hi5, q5⟩
    by_cases hlt : i < items.length
    · obtain ⟨d, hd⟩ : ∃ d, items[i]? = some d := ⟨_, List.getElem?_eq_getElem hlt⟩
      rw [List.drop_eq_getElem_cons hlt] at q5
      have hd' : items[i] = d := by rw [List.getElem?_eq_getElem hlt] at hd; exact Option.some.inj hd
      rw [hd'] at q5
      refine lcF k5 (Tn.item (X.blk s3 H3 scope ce fp) rfl rfl rfl hc i [] s5 _ H5 (fun _ _ => False) I5 (again I5 n5) st5 (hJ.go i H5 M5 e5 m5 q5.1 hlt)) fun r s6 k6 z => ?_
      obtain ⟨u, rfl, h6⟩ := z
      refine lcF k6 h6 fun _ s7 k7 z => ?_
      obtain ⟨x, H7, I7, r7, y7, st7, n7⟩ := z
      obtain ⟨e57, m7, rep7⟩ := hJ.yld i H5 M5 x H7 e5 m5 q5.1 y7 d hd
      have e7 := e5.trans e57
      have I7' := I7.pinned (again I7 n7) (Tn.obj _ _ st7)
      have fin : ∀ {σ8 : L2.St} {s' : Shared} {H' : Hp} {M' : Mp} {acc' : List D}, wipe σ8 vs = wipe (wipe σ vs) vs → T ≤ s'.toks → Inv (X.blk s3 H3 scope ce fp) ([] ++ pinsAt fp s7.heap) σ8 H' s' → HExt H2 H' → RepM X.K H' M' → qLcL gd items g tt te L (wiD ρ2 vs) (items.drop (i + 1)) acc' M' Qd →
          ∃ m, m < items.length - i ∧ ∃ i H' M' acc, T ≤ s'.toks ∧ Inv (X.blk s3 H3 scope ce fp) [] (wipe σ vs) H' s' ∧ tn i s'.heap ∧ (∀ b ∈ fp, H' b = none) ∧ HExt H2 H' ∧ RepM X.K H' M' ∧ m = items.length - i ∧ i ≤ items.length ∧ qLcL gd items g tt te L (wiD ρ2 vs) (items.drop i) acc M' Qd := fun {σ8 s' H' M' acc'} hw k' I' e' m' q' => by
        have pin' : ∀ b ∈ fp, ∀ o, s7.heap.get? b = some o → s'.heap.get? b = some o ∧ H' b = none := fun b hb o e =>
          let z := I'.pin (b, o) (List.mem_append_right _ (List.mem_append_right _ (mem_pinsAt hb e)))
          ⟨z.1, z.2.1⟩
        have hl : (wipe σ vs).length = σ8.length := by rw [wipe_length, ← wipe_length σ8 vs, hw, wipe_length, wipe_length]
        refine ⟨items.length - (i + 1), by omega, i + 1, H', M', acc', k', (I'.unpinned (pins := [])).weak hl (fun j v e => ?_), Tn.keep _ _ _ st7 fun b hb o e => (pin' b hb o e).1, fun b hb => ?_, e', m', rfl, hlt, q'⟩
        · obtain ⟨e1, nj⟩ := wipe_some e
          have e2 : (wipe (wipe σ vs) vs)[j]? = some (some v) := by rw [wipe_out nj, wipe_out nj]; exact e1
          rw [← hw] at e2
          exact (wipe_some e2).1
        · obtain ⟨o, e, _⟩ := Tn.obj _ _ st7 b hb
          exact (pin' b hb o e).2
      refine lcF k7 (pg.run _ s7 _ H7 x u (fun σ8 H8 => ∃ ρ8 M8, wipe σ8 vs = wipe (wipe σ vs) vs ∧ HExt H7 H8 ∧ RepS X.K H8 σ8 ρ8 ∧ RepM X.K H8 M8 ∧ tt ρ8 M8 _ noX) I7' k7 r7 ⟨d, wiD ρ2 vs, M5, _, rep7, (hS2.wipe vs).ext e7, m7, q5.2, fun σ8 ρ8 H8 M8 e s8 m8 w8 q8 => ⟨ρ8, M8, w8, e, s8, m8, q8⟩⟩) fun _ s8 k8 z => ?_
      obtain ⟨σ8, H8, I8, ρ8, M8, w8, e78, s8', m8, q8⟩ := z
      refine lcF k8 (pt.run _ s8 σ8 H8 (fun b H9 => ∃ M9, HExt H8 H9 ∧ RepM X.K H9 M9 ∧ _) I8 k8 ⟨ρ8, M8, _, noX, s8', m8, q8, fun b d H9 M9 e m r q => ⟨M9, e, m, by rw [r]; exact q⟩, fun _ _ _ _ _ _ _ _ z => z⟩) fun b s9 k9 z => ?_
      obtain ⟨H9, I9, M9, e89, m9, q9⟩ := z
      have e9 := (e7.trans e78).trans e89
      cases b with
      | false =>
        rw [if_neg Bool.false_ne_true]
        exact fin w8 k9 I9 e9 m9 q9
      | true =>
        rw [if_pos rfl]
        refine lcF k9 (pe.run _ s9 σ8 H9 (fun yv H10 => ∃ y M10, HExt H9 H10 ∧ RepM X.K H10 M10 ∧ Rep X.K H10 yv y ∧ _) I9 k9 ⟨ρ8, M9, _, noX, s8'.ext e89, m9, q9, fun v d H' M' e m r q => ⟨d, M', e, m, r, q⟩, fun _ _ _ _ _ _ _ _ z => z⟩) fun z s10 k10 zz => ?_
        obtain ⟨yv, H10, I10, r10, y, M10, e910, m10, ry, hp10, hz10, nx⟩ := zz
        obtain ⟨vs10, hv10, rv10⟩ := m10 L (.lst acc) hp10
        refine wpAny_with_toks k10 (app_ok (X := X.blk s3 H3 scope ce fp) I10 hv10 (by rw [rv10.length]; exact hz10) r10 fun s11 I11 k11 => ?_)
        have ex : HExt H10 (upd H10 L (.lst (vs10 ++ [yv]))) := m10.extM hp10
        exact fin w8 k11 I11 (e9.trans (e910.trans ex)) (m10.set (u := .lst (acc ++ [y])) hp10 ⟨_, upd_same, Reps.append (Reps.ext ex _ _ rv10) (reps_cons (Rep.ext ex _ _ ry) reps_nil)⟩) nx
    · have e : items.length ≤ i := by omega
      rw [List.drop_eq_nil_of_le e] at q5
      refine lcF k5 (Tn.done (X.blk s3 H3 scope ce fp) rfl rfl rfl hc i [] s5 _ H5 (fun _ _ => False) I5 (again I5 n5) st5 (hJ.stop i H5 M5 e5 m5 q5.1 e)) fun r s6 k6 z => ?_
      obtain ⟨rfl, I6⟩ := z
      have I7 : Inv X pins σ H5 s6 := I3.call' (ch := fp) I6.os I6.base I6.hok I6.bare fun b hb => ⟨(f3 b hb).1.2.2.2.1, (f3 b hb).1.2.1, (f3 b hb).1.2.2.2.2.1, (f3 b hb).1.2.2.2.2.2⟩
      have nC : H5 s3.heap.objs.size = none := by rw [← cL]; exact I6.free
      obtain ⟨m, hn, _⟩ := I6.loc
      have hn : s6.heap.Ns ce.locals m := hn
      rw [cL] at hn
      exact hRR L s3.heap.objs.size s6 m H5 I7 (hq _ (.ref L) H5 M5 (e02.trans e5) m5 (by rw [Rep]) q5.2) hn (I3.fpOk (Nat.le_refl _) nC)
  exact codeAny_compStart_list loop (Tn.self X.A 0 _ _ _ st4 loop)
theorem q_lc {elt tg iter : Expr} {ifs : List Expr} {scope : Scope} {own : List (Str × Nat)} {ti : QI} {g : QG} {tt : QT} {te : QE} (hc : X.calm = true) (hN : X.N.Nodup) (hi : QPI X T W tg iter ti) (ok : BlkOk X.N X.env.scope scope own)
    (hg : ∀ (s : Shared) (H : Hp) (C : Addr) (cl : List (Str × Addr)) (fp : List Addr), QPGo (X.blk s H scope (compEnvC scope cl C X.env) fp) T (own.map (·.2)) tg g)
    (ht : ∀ (s : Shared) (H : Hp) (C : Addr) (cl : List (Str × Addr)) (fp : List Addr), QPTs (X.blk s H scope (compEnvC scope cl C X.env) fp) T ifs tt)
    (he : ∀ (s : Shared) (H : Hp) (C : Addr) (cl : List (Str × Addr)) (fp : List Addr), QPE (X.blk s H scope (compEnvC scope cl C X.env) fp) T noW elt te) (hs : ∀ x, foldedSetIterable iter X.env x = pure x := by intro _; rfl) :
    QPE X T W (.ListComp elt [⟨tg, iter, ifs, 0⟩] scope pos) (qLc ti g tt te (own.map (·.2))) := ⟨⟨fun pins s σ H Q I k h => by
  rw [eval_ListComp]
  refine q_lcCore hc hN I k hi ok hg ht he hs h fun L C s' m H' I' q hn f => ⟨m, hn, fun h'' sb => ?_⟩
  obtain ⟨f0, f1, f2, f3, f4, f5⟩ := f
  exact ⟨.ref L, H', I'.turned (t' := s'.toks) (fun b o hb e => (sb.2 b hb).trans e) f0 f1 f3 f4 f5, rfl, q⟩⟩⟩
end
end DL
end

section
set_option Elab.async false
set_option linter.all false
set_option maxRecDepth 100000
set_option maxHeartbeats 2000000
namespace DL
open PySem PySem.Spec PySem.W PySem.Calls PyProof.Rows L2

/-! ### own exceptions over ValueError, whose __init__ hands its arguments on to super() -/
/-- what the written part says of the class at C: its __init__ at fI, f its field, D the class that super() leaves -/
structure SupX (P : Program) (K : PySem.W.Frag) (mg : Str → Option Value) (C fI : Addr) (qual : Str) (params : Arguments) (body : List Stmt) (scope : Scope) : Prop where
  ex : OexC K C
  init : PySem.W.findIn K (.ref C) "__init__" = some (some (.ref fI))
  ty : PySem.W.typeIn K (.ref fI) = some (.type "function")
  fn : ∃ oc od osl name kV doc pm an cda ct cc, K.lookup fI = some ⟨oc, od, .func (PySem.W.ksFn name qual params body scope .none kV doc pm an (.ref cda) ct cc), osl⟩ ∧ PySem.W.codeIn K (.ref cda) qual = true ∧
    (∃ ccl cdd vs ccs file tf, K.lookup cda = some ⟨ccl, cdd, .fields vs, ccs⟩ ∧ vs[2]? = some (.str file tf) ∧ ((P.main.file : Str) == file) = true) ∧ (∃ cl cld csl, K.lookup cc = some ⟨cl, cld, .cell (some (.ref C)), csl⟩)
  sup : PySem.W.ks_superIn K C C "__init__" = some (some (.builtin "ValueError.__init__"))
  sub : PySem.W.mroIn K C (.ref C) = some true
  subV : PySem.W.subIn K (.ref C) (.type "ValueError") = some true
  opq : PySem.W.nsIn K cStatics "thirdparty.any" = some none
  glb : mg "super" = none
  top : (P.main.scope.names.lookup ("super" : Str)).isSome = false
section
variable {prog : Program} {w : World} {A : Around} {E : Value → Shared → Prop} {R : Result → Shared → Prop} {K : PySem.W.Frag} {base : Heap} {mg : Str → Option Value}
theorem sup_call {hp : Heap} {g : Array GenState} {d : Drawn} {t : Nat} {os : OsState} {u x C t0 : Addr} {nm q : Str} {N : Addr} {bs bm sub : List Value} {sn : List Str} {ab : Bool} {col : Option Bool} {dd : Option Addr} {k0 k1 k2 k3 k5 : Option Value} {rest : List Value} {Q : Value → Shared → Prop}
    (hC : hp.get? C = some (excClassObj nm q C N bs bm true sn sub ab col dd k0 k1 k2 k3 k5 "ValueError.__new__")) (hu : hp.get? u = some (kxs_mw "ValueError.__init__" x)) (hx : hp.get? x = some (PySem.HandSPX.excO C t0)) (hz : rest.length ≤ sizeLine)
    (h : ∀ h' t1, (∀ b o, b ≠ x → hp.get? b = some o → h'.get? b = some o) → h'.get? x = some (PySem.HandSPX.excO C t1) → Q .none ⟨h', g, d, t, os⟩) :
    wpAny (model prog w) A (call (.ref u) rest) Q E ⟨hp, g, d, t, os⟩ := by
  refine wpAny_call (codeAny_of_tree ?_)
  show wpAny _ A.in1 (callAny (.ref u) ⟨rest, []⟩) _ _ _
  simp only [callAny]
  refine wpAny_bind (wpAny_load hu ?_)
  simp only [kxs_mw, show (Value.type "method-wrapper" == Value.type "method" || Value.type "method-wrapper" == Value.type "builtin_function_or_method" || Value.type "method-wrapper" == Value.type "method-wrapper") = true by decide, if_true]
  refine KFB.if_so (by decide) ?_
  refine wpAny_bind (check_bound_init F.excBase_ValueError.toExcCallFacts hC hx rfl ?_)
  refine wpAny_bind (wpAny_pure (wpAny_pure ?_))
  refine ⟨plainId_quiet F.excBase_ValueError.init.plain _, codeAny_builtin F.excBase_ValueError.initEntry ?_⟩
  exact exc_init_tree (cls := .ref C) (t0 := t0) (dv := none) (c2 := .none) (c3 := .none) (b4 := .bool false) hx hz fun h' k e _ => h h' _ k e
/-- the __init__ of one field -/
theorem sup_init1 {hp : Heap} {g : Array GenState} {d : Drawn} {t : Nat} {os : OsState} {fI x C t0 : Addr} {qual par fld : Str} {params : Arguments} {scope : Scope} {p0 p1 p2 p3 p4 p5 p6 p7 p8 p9 : Pos} {v : Value}
    (SX : SupX prog K mg C fI qual params [.Expr (.Call (.Attribute (.Call (.Name "super" p0) [] [] p1) "__init__" p2) [.Name par p3] [] p4) p5, .Assign [.Attribute (.Name "self" p6) fld p7] (.Name par p8) p9] scope)
    (hroom : A.depth < recursionLimit) (md : Mod K mg base) (hb : ∀ b o, base.get? b = some o → hp.get? b = some o) (hx : hp.get? x = some (PySem.HandSPX.excO C t0)) (hxb : base.get? x = none)
    (hpar : (par == ("__debug__" : Str)) = false) (hps : par ≠ "self") (hk : scope.kind = .function) (hco : scope.isCoroutine = false) (hgen : scope.isGenerator = false)
    (hcell : ∀ x ∈ scope.names, x.2 ≠ .cell) (hself : scope.names.lookup ("self" : Str) = some .local) (hpl : scope.names.lookup par = some .local) (hks : scope.names.lookup ("super" : Str) = some .globalImplicit) (hkc : scope.names.lookup ("__class__" : Str) = some .free)
    (hps2 : ∃ ar, (params.posonlyargs ++ params.args).head? = some ar ∧ ar.arg = "self") (hfld : PySem.W.findIn K (.ref C) fld = some none)
    (hbind : ∀ (name : Str) (kV doc pm : Value) (an : Option Addr) (cdv ct : Value) (cc : Addr), BindsTo ⟨hp, g, d, t, os⟩ (PySem.W.ksFn name qual params [.Expr (.Call (.Attribute (.Call (.Name "super" p0) [] [] p1) "__init__" p2) [.Name par p3] [] p4) p5, .Assign [.Attribute (.Name "self" p6) fld p7] (.Name par p8) p9] scope .none kV doc pm an cdv ct cc) ⟨[.ref x, v], []⟩ [(("self" : Str), Value.ref x), (par, v)])
    (he : ∀ (L cda cc : Addr), ∃ pl, eval (.Call (.Attribute (.Call (.Name "super" p0) [] [] p1) "__init__" p2) [.Name par p3] [] p4) (PySem.W.ksEnv qual scope L fI (.ref cda) cc) = (do
      let ov ← attributeBase (.Call (.Name "super" p0) [] [] p1) "__init__" (PySem.W.ksEnv qual scope L fI (.ref cda) cc) (eval (.Call (.Name "super" p0) [] [] p1) (PySem.W.ksEnv qual scope L fI (.ref cda) cc))
      standAt p2.atName
      let (f, first) ← holding [ov] (getMethod ov "__init__" pl)
      callWith p4 f first (backTo p4 (starEach [.Name par p3] (PySem.W.ksEnv qual scope L fI (.ref cda) cc))) []))
    (hq : ∀ h' tk' dx t1, (∀ b o, b ≠ x → hp.get? b = some o → h'.get? b = some o) → hp.objs.size ≤ dx → h'.get? x = some { cls := .ref C, dict := some dx, data := .fields #[.ref t1, .none, .none, .none, .bool false, .none] } →
      h'.Ns1 dx (fun y => if y = fld then some v else none) → R (.ok (.ret .none)) ⟨h', g, d, tk', os⟩) :
    codeAny (model prog w) A (.call (.ref fI) ⟨[.ref x, v], []⟩) R ⟨hp, g, d, t, os⟩ := by
  obtain ⟨oc, od, osl, name, kV, doc, pm, an, cda, ct, cc, hf, hcd, ⟨ccl, cdd, vs, ccs, file, tf, hcode, hvs, hfile⟩, ⟨cl, cld, csl, hcc⟩⟩ := SX.fn
  obtain ⟨nm, q, N, bs, bm, sn, sub, ab, col, dd, k0, k1, k2, k3, k5, hC, hbm⟩ := SX.ex.cls
  have hcl : PySem.W.clsIn K C = some { name := nm, bases := bs, mro := .ref C :: bm, ns := N, qualname := q, hasDict := true, slotNames := sn, subclasses := sub, abstract := ab, collection := col, hasDel := false } := by unfold PySem.W.clsIn; rw [hC] <;> rfl
  have X : K.In hp := md.kin.keeps hb
  obtain ⟨ar, har, hae⟩ := hps2
  refine ks_codeAny_call_defAt (fd := PySem.W.ksFn name qual params _ scope .none kV doc pm an (.ref cda) ct cc) (binds := [(("self" : Str), Value.ref x), (par, v)]) hroom (X _ _ hf) rfl (md.nolimit.keeps hb) (codeRec_of X hcd) rfl (hbind _ _ _ _ _ _ _ _) hcell (fun y hy => ?_) (fun h1 hn kp => ?_) hco hgen hk
  · rcases List.mem_cons.mp hy with rfl | hy
    · exact hself
    · rcases List.mem_cons.mp hy with rfl | hy
      · exact hpl
      · cases hy
  have X1 : K.In h1 := X.keeps kp
  have hb1 : ∀ b o, base.get? b = some o → h1.get? b = some o := fun b o e => kp b o (hb b o e)
  have ms : (fun x_1 => List.lookup x_1 [(("self" : Str), Value.ref x), (par, v)].reverse) "self" = some (.ref x) := by
    show List.lookup ("self" : Str) [(par, v), (("self" : Str), Value.ref x)] = _
    rw [List.lookup_cons, show (("self" : Str) == par) = false by simpa using fun e => hps e.symm]
    rfl
  have mp : (fun x_1 => List.lookup x_1 [(("self" : Str), Value.ref x), (par, v)].reverse) par = some v := by
    show List.lookup par [(par, v), (("self" : Str), Value.ref x)] = _
    rw [List.lookup_cons, show (par == par) = true by simp]
  generalize (fun x_1 => List.lookup x_1 [(("self" : Str), Value.ref x), (par, v)].reverse) = m0 at hn ms mp
  have hx1 := kp _ _ hx
  generalize hL : hp.objs.size = L at hn ⊢
  have henv : callEnv (PySem.W.ksFn name qual params [.Expr (.Call (.Attribute (.Call (.Name "super" p0) [] [] p1) "__init__" p2) [.Name par p3] [] p4) p5, .Assign [.Attribute (.Name "self" p6) fld p7] (.Name par p8) p9] scope .none kV doc pm an (.ref cda) ct cc) L fI = PySem.W.ksEnv qual scope L fI (.ref cda) cc := rfl
  rw [henv]
  obtain ⟨pl, he⟩ := he L cda cc
  refine ks_wpAt_execs_cons (ks_wpAt_Expr_any (hi := by unfold interactive; rw [show (PySem.W.ksEnv qual scope L fI (.ref cda) cc).scope.kind = .function from hk]; rfl) (ks_wpAt_MethodCall (he := he) (ks_wpAt_super_base (env := PySem.W.ksEnv qual scope L fI (.ref cda) cc) hks hkc rfl rfl (X1 _ _ hf) rfl har rfl (X1 _ _ hcode) rfl hvs hfile SX.top ?_)))
  obtain ⟨mb, hb2, hb3⟩ := md.blt
  refine ks_loadName_global hk hks (loadGlobal_builtin (env := PySem.W.ksEnv qual scope L fI (.ref cda) cc) (md.glob.keeps hb1) SX.glb (hb2.keeps hb1) ((hb3 _ (by decide)).trans PyProof.Rows.Boot.«super») ⟨rfl, ?_⟩)
  refine wpAny_loadName_free hk hkc rfl ⟨_, X1 _ _ hcc, rfl⟩ ?_
  rw [hae]
  refine wpAny_loadName_local hk hself hn ms ?_
  have hC1 := X1 _ _ hC
  refine ks_wpAny_isType_cls hC1 rfl ⟨rfl, ?_⟩
  refine ks_wpAny_call_super hC1 rfl hx1 rfl (fun c e => by cases e) (looks_mroIn X1 SX.sub) (fun h2 e2 k2 => ?_)
  have X2 : K.In h2 := X1.keeps k2
  have hxC : x ≠ C := fun z => by
    rw [z, X _ _ hC] at hx
    cases hx
  have hm : PySem.W.alongIn K "__init__" ((List.dropWhile (· != .ref C) (.ref C :: bm)).drop 1) = some (some (.builtin "ValueError.__init__")) := by
    have := SX.sup
    unfold ks_superIn at this
    rw [hcl] at this
    exact this
  have LT : PySem.W.Looks (model prog w) h2 (typeOf (.ref x)) (.ref C) := fun A Q E s k q => wpAny_typeOf_ref (k _ _ (k2 _ _ hx1)) q
  refine kxs_getMethod kxs_ValueError e2 (looks_opaque X2 SX.opq) (l₀ := .ref C :: bm) (fun A Q E s k q => wpAny_bind ((looks_clsIn X2 hcl) A _ E s k (wpAny_pure q))) rfl X2 hm (LT.andThen (looks_subIn X2 SX.subV)) hxC rfl ?_
  -- the bound __init__, called
  have up3 : ∀ b o, h2.get? b = some o → (h2.push (kxs_mw "ValueError.__init__" x)).get? b = some o := fun b o e => Heap.get?_push_of_some _ e
  have hu : (h2.push (kxs_mw "ValueError.__init__" x)).get? h2.objs.size = some (kxs_mw "ValueError.__init__" x) := Heap.get?_push_at rfl rfl
  have keep3 : ∀ b o, h1.get? b = some o → (h2.push (kxs_mw "ValueError.__init__" x)).get? b = some o := fun b o e => up3 b o (k2 b o e)
  have hn3 := hn.keeps keep3
  refine kxs_callWith (i := "ValueError.__init__") (x := x) rfl ?_
  refine evalArgs_plain (spliced_cons (wpAny_Name (wpAny_loadName_local hk hpl hn3 mp ?_) hpar))
  refine spliced_nil ⟨hu, ?_⟩
  refine sup_call (up3 _ _ (k2 _ _ hC1)) hu (keep3 _ _ hx1) (by rw [sizeLine_eq]; simp) fun h4 t4 k4 e4 => ?_
  -- self.fld = par
  have hxL : L ≠ x := fun z => by
    have := Heap.lt_size hx
    rw [hL, z] at this
    exact absurd this (Nat.lt_irrefl _)
  have hn4 : h4.Ns L m0 := hn3.at fun o e => k4 _ _ hxL e
  refine ks_wpAt_execs_cons (ks_wpAt_Assign_Attr (wpAt_of_wpAny (wpAny_Name (wpAny_loadName_local hk hpl hn4 mp (wpAny_Name (wpAny_loadName_local hk hself hn4 ms ?_) (by decide))) hpar)))
  have hb4 : ∀ b o, base.get? b = some o → h4.get? b = some o := fun b o e => k4 b o (fun z => by
    rw [z, hxb] at e
    cases e) (keep3 b o (hb1 b o e))
  have X4 : K.In h4 := md.kin.keeps hb4
  refine set_plain X4 (ox := PySem.HandSPX.excO C t4) (od := none) ⟨e4, rfl, rfl, trivial⟩ SX.ex.sa ?_
  refine PySem.HandSPX.exc_osa X4 e4 hcl (show PySem.HandSPX.refsVE (.ref C :: bm) = true from hbm) rfl hfld fun h5 tk5 dx k5' dn dne e5 n5 => ?_
  refine wpAt_of_wpAny (wpAny_execs_nil (hq h5 tk5 dx t4 (fun b o hbx e => k5' b o hbx (k4 b o hbx (keep3 b o (kp b o e)))) ?_ e5 n5))
  obtain ⟨oL, es, ep, hL4, _⟩ := hn4
  rw [hL]
  exact Nat.le_trans (Nat.le_of_lt (Heap.lt_size hL4)) dn
end
end DL
end

section
set_option Elab.async false
set_option linter.all false
set_option maxRecDepth 100000
set_option maxHeartbeats 2000000
namespace DL
open PySem PySem.Spec PySem.Calls PyProof.Rows L2

/-! ### raise -/
def TPMk (X : Cx) (T : Nat) (e : Expr) (t : L2.St → Hp → XK → Prop) : Prop :=
  ∀ (pins : List (Addr × Obj)) (s : Shared) (σ : L2.St) (H : Hp) (Q : XK), Inv X pins σ H s → T ≤ s.toks → t σ H Q → wpAny (model X.prog X.w) X.A (eval e X.env) (MkP X pins σ Q) X.xe s
theorem tps_raise {X : Cx} {T : Nat} {W : WX} {e : Expr} {t : L2.St → Hp → XK → Prop} {pos : Pos} (hc : X.calm = true) (tk : Takes X W) (he : TPMk X T e t) : TPS X T (.Raise (some e) none pos) (fun _ σ H => t σ H fun cls d H' => W cls d σ H') := ⟨fun pins s σ H D I k h => by
  show wpAny _ _ (do standAt pos; raiseStmt X.env (some (do let v ← eval e X.env; standAt pos; pure v)) none) _ _ _
  refine wpAny_bind (wpAny_standAt (raise_made (I.ok.hd hc) (wpAny_bind (thn (he pins s σ H _ I k h) fun u s1 hu => wpAny_bind (wpAny_standAt (wpAny_pure ?_))))))
  obtain ⟨a, oe, vs, sI, H', cls, d, rfl, J, kp, hne, ha, hz, hd, h1, na, os, ag, r, q⟩ := hu
  obtain ⟨r1, r2⟩ := r (model X.prog X.w) s1.heap (J.kIn.keeps kp)
  exact ⟨a, oe, vs, cls, rfl, ha, hz.1, hd, h1, r1, r2, tk _ _ (XE.new J kp hne ha hz hd h1 na os ag q)⟩⟩
abbrev QMk := PSt → Mp → QX → QX → Prop
def lowMk (K : PySem.W.Frag) (W : WX) (t : QMk) : L2.St → Hp → XK → Prop := fun σ H Q => ∃ ρ M Qd E, RepS K H σ ρ ∧ RepM K H M ∧ t ρ M Qd E ∧
  (∀ C dd fs H' M', HExt H H' → RepM K H' M' → RepX K H' dd fs → Qd C fs M' → Q (.ref C) dd H') ∧ okX K W σ H E
structure QPMk (X : Cx) (T : Nat) (W : WX) (e : Expr) (t : QMk) : Prop where
  pm : TPMk X T e (lowMk X.K W t)
def qRaise (t : QMk) : QS := fun B ρ M => t ρ M (B.ex ρ) (B.ex ρ)
section
variable {X : Cx} {T : Nat} {W : WX} {pos : Pos}
theorem s_raise {e : Expr} {t : QMk} (hc : X.calm = true) (tk : Takes X W) (he : QPMk X T W e t) : QPS X T W (.Raise (some e) none pos) (qRaise t) := ⟨(tps_raise hc tk he.pm).impD fun D σ H h => by
  obtain ⟨ρ, M, B, hs, hm, ht, ok⟩ := h
  exact ⟨ρ, M, _, _, hs, hm, ht, fun C dd fs H' M' e m x q => ok.ex C dd fs σ ρ H' M' e (hs.ext e) m x q, ok.okX hs⟩⟩
/-- C(), a class without an __init__ of its own -/
def qMk0 (C : Addr) : QMk := fun _ M Q _ => Q C [] M
theorem mk_own0 {C : Addr} {x : Str} {p : Pos} {B newId initId : String} {bmB : List Value} (F : ExcBaseFacts B newId initId bmB) (q : PySem.W.excIn X.K C bmB newId = true) (kC : PySem.W.keepIn X.K (.ref C) = true) (r1 : PySem.W.subIn X.K (.ref C) (.type "BaseException") = some true)
    (r2 : PySem.W.typeIn X.K (.ref C) = some (.type "type")) (hg : Gl X x) (gC : X.mg x = some (.ref C)) (hdb : (x == ("__debug__" : Str)) = false := by decide) : QPMk X T W (.Call (.Name x p) [] [] pos) (qMk0 C) := ⟨fun pins s σ H Q I k h => by
  obtain ⟨ρ, M, Qd, E, hs, hm, ht, hq, hx⟩ := h
  refine wpAny_Call_Name_kw (ld_glob I hg gC (PySem.W.callWith_K0 I.kIn kC ?_) hdb)
  obtain ⟨bm, N, nm, qn, bs, hdct, sn, sub, ab, col, dd, k0, k1, k2, k3, k5, mN, hC, hN, hni, Tl⟩ := exc_obj I.kIn q
  show wpAny _ _ (call (.ref C) []) _ _ _
  refine wpAny_call_exc_subT F Tl hC hN hni (fun h' e hmk => ?_) (Nat.zero_le _)
  exact mk_of I hmk (raises_own r1 r2) (hq C none [] H M (HExt.refl H) hm (.inl ⟨rfl, rfl⟩) ht) (I.hok.gone hmk.new)⟩
/-- C(e), its __init__ handing it on to super() and keeping it as a field -/
def qMk1 (C : Addr) (fld : Str) (t : QE) : QMk := fun ρ M Q E => t ρ M (fun d M1 => Q C [(fld, d)] M1) E
abbrev supB (par fld : Str) (p0 p1 p2 p3 p4 p5 p6 p7 p8 p9 : Pos) : List Stmt := [.Expr (.Call (.Attribute (.Call (.Name "super" p0) [] [] p1) "__init__" p2) [.Name par p3] [] p4) p5, .Assign [.Attribute (.Name "self" p6) fld p7] (.Name par p8) p9]
theorem mk_sup1 {C fI : Addr} {x qual par fld : Str} {p : Pos} {params : Arguments} {scope : Scope} {p0 p1 p2 p3 p4 p5 p6 p7 p8 p9 : Pos} {e : Expr} {te : QE} {k : Nat}
    (SX : SupX X.prog X.K X.mg C fI qual params (supB par fld p0 p1 p2 p3 p4 p5 p6 p7 p8 p9) scope) (hr : Room (k + 1) X.A) (hg : Gl X x) (gC : X.mg x = some (.ref C)) (he : QPE X T W e te) (hfld : PySem.W.findIn X.K (.ref C) fld = some none)
    (hpar : (par == ("__debug__" : Str)) = false := by decide) (hps : par ≠ "self" := by decide) (hk : scope.kind = .function := by rfl) (hco : scope.isCoroutine = false := by rfl) (hgen : scope.isGenerator = false := by rfl)
    (hcell : ∀ x ∈ scope.names, x.2 ≠ .cell := by decide) (hself : scope.names.lookup ("self" : Str) = some .local := by rfl) (hpl : scope.names.lookup par = some .local := by rfl) (hks : scope.names.lookup ("super" : Str) = some .globalImplicit := by rfl) (hkc : scope.names.lookup ("__class__" : Str) = some .free := by rfl)
    (hps2 : ∃ ar, (params.posonlyargs ++ params.args).head? = some ar ∧ ar.arg = "self" := by exact ⟨_, rfl, rfl⟩)
    (hbind : ∀ (name : Str) (kV doc pm : Value) (an : Option Addr) (cdv ct : Value) (cc : Addr) (a v : Value), bindArgs (PySem.W.ksFn name qual params (supB par fld p0 p1 p2 p3 p4 p5 p6 p7 p8 p9) scope .none kV doc pm an cdv ct cc) ⟨[a, v], []⟩ = pure [(("self" : Str), a), (par, v)] := by intros; rfl)
    (hev : ∀ (L cda cc : Addr), ∃ pl, eval (.Call (.Attribute (.Call (.Name "super" p0) [] [] p1) "__init__" p2) [.Name par p3] [] p4) (PySem.W.ksEnv qual scope L fI (.ref cda) cc) = (do
      let ov ← attributeBase (.Call (.Name "super" p0) [] [] p1) "__init__" (PySem.W.ksEnv qual scope L fI (.ref cda) cc) (eval (.Call (.Name "super" p0) [] [] p1) (PySem.W.ksEnv qual scope L fI (.ref cda) cc))
      standAt p2.atName
      let (f, first) ← holding [ov] (getMethod ov "__init__" pl)
      callWith p4 f first (backTo p4 (starEach [.Name par p3] (PySem.W.ksEnv qual scope L fI (.ref cda) cc))) []) := by intros; exact ⟨_, rfl⟩)
    (hdb : (x == ("__debug__" : Str)) = false := by decide) (hst : starEach [e] X.env = (false, eval e X.env) :: starEach [] X.env := by rfl) : QPMk X T W (.Call (.Name x p) [e] [] pos) (qMk1 C fld te) := ⟨fun pins s σ H Q I kT h => by
  obtain ⟨ρ, M, Qd, Ex, hs, hm, ht, hq, hx⟩ := h
  obtain ⟨nm, q, N, bs, bm, sn, sub, ab, col, dd, k0, k1, k2, k3, k5, hC, hbm⟩ := SX.ex.cls
  have ha := (tpa_cons he.pe tpa_nil hst).run pos pins s σ H (fun vs H1 => ∃ v d M1, vs = [v] ∧ Rep X.K H1 v d ∧ HExt H H1 ∧ RepM X.K H1 M1 ∧ Qd C [(fld, d)] M1) I kT ⟨ρ, M, _, Ex, hs, hm, ht, fun v d H' M' e m r q => ⟨v, d, M', rfl, r, e, m, q⟩, hx⟩
  refine wpAny_Call_Name_kw (ld_glob I hg gC (PySem.W.callWith_K (h₀ := X.base) I.ok.mod.kin SX.ex.kC (thn ha fun us s1 z => ?_) hst rfl) hdb)
  obtain ⟨vs, H1, I1, r1, v, d, M1, rfl, rv, e1, m1, q1⟩ := z
  obtain ⟨u, rfl, ru⟩ := vals1 r1
  refine ⟨I1.kIn, ?_⟩
  show wpAny _ _ (call (.ref C) [u]) _ _ _
  obtain ⟨hp, g, dr, tk, os⟩ := s1
  have hbs : ∀ b o, X.base.get? b = some o → hp.get? b = some o := fun b o e => (I1.env0.bs b o e).1
  have kk : ∀ b o, hp.get? b = some o → ((hp.push (PySem.W.kdv_tup [u])).push (PySem.HandSPX.excO C hp.objs.size)).get? b = some o := fun b o e => Heap.get?_push_of_some _ (Heap.get?_push_of_some _ e)
  have hget : ((hp.push (PySem.W.kdv_tup [u])).push (PySem.HandSPX.excO C hp.objs.size)).get? (hp.objs.size + 1) = some (PySem.HandSPX.excO C hp.objs.size) := by heap_get
  have nox : ∀ {b o}, hp.get? b = some o → b ≠ hp.objs.size + 1 := fun {b o} z y => by
    have := Heap.lt_size z
    rw [y] at this
    exact absurd (Nat.lt_trans (Nat.lt_succ_self _) this) (Nat.lt_irrefl _)
  refine wpAny_call (PySem.HandSPX.call_own F.excBase_ValueError (fun Y => PySem.HandSPX.refsVE_contains Y bm hbm) (I1.kIn _ _ hC) (PySem.W.looks_findIn I1.kIn SX.init) (fun self => PySem.W.bind_fn I1.kIn self SX.ty) (by rw [sizeLine_eq]; simp)
    (sup_init1 (base := X.base) SX (hr.make C [u] []).depth I.ok.mod (fun b o e => kk b o (hbs b o e)) hget ?_ hpar hps hk hco hgen hcell hself hpl hks hkc hps2 hfld (fun _ _ _ _ _ _ _ _ => .of_eq (hbind ..)) hev fun h' tk' dx t1 kp dn ex ns => ?_))
  · cases z : X.base.get? (hp.objs.size + 1) with
    | none => rfl
    | some o => exact absurd rfl (nox (hbs _ _ z))
  · have hdx : hp.objs.size ≤ dx := Nat.le_trans (by simp [Heap.size_push]; omega) dn
    have hdxa : dx ≠ hp.objs.size + 1 := fun z => by
      obtain ⟨o, es, ep, e1, e2, _⟩ := ns
      rw [z, ex] at e1
      cases e1
      cases e2
    have hn : H1 dx = none := I1.hok.fresh hdx
    obtain ⟨G, g1', g2'⟩ := restrict h' fun b => decide (b ≠ hp.objs.size + 1)
    have gk : ∀ b, b ≠ hp.objs.size + 1 → G.get? b = h'.get? b := fun b hb => g1' b (decide_eq_true hb)
    have ge : G.get? (hp.objs.size + 1) = none := g2' _ (by simp)
    have nG : G.Ns1 dx (fun y => if y = fld then some u else none) := ns.at fun o y => (gk dx hdxa).trans y
    have J : Inv X pins σ (upd H1 dx (.xd [(fld, v)])) ⟨G, g, dr, tk', os⟩ := I1.laid (a := dx) (t' := tk') (fun b o e => (gk b (nox e)).trans (kp b o (nox e) (kk b o e))) hdx
      ⟨_, nG, relO_put (fs := []) ru fun _ => True.intro⟩
    refine ⟨rfl, hp.objs.size + 1, _, _, ⟨G, g, dr, tk', os⟩, upd H1 dx (.xd [(fld, v)]), .ref C, some dx, rfl, J, fun b o e => ?_, ge, ex, ⟨rfl, rfl⟩, rfl, rfl, J.hok.gone ge, rfl, I1.bare, raises_own SX.ex.exC SX.ex.tyC, ?_⟩
    · by_cases hb : b = hp.objs.size + 1
      · rw [hb, ge] at e
        cases e
      · rw [← gk b hb]
        exact e
    · have en : HExt H1 (upd H1 dx (.xd [(fld, v)])) := HExt.new hn
      exact hq C (some dx) [(fld, d)] _ M1 (e1.trans en) (m1.new hn) (.inr ⟨dx, [(fld, v)], rfl, upd_same, show RepN X.K _ [(fld, v)] [(fld, d)] from ⟨rfl, reps_cons (Rep.ext en _ _ rv) reps_nil⟩⟩) q1⟩
end
end DL
end

section
set_option Elab.async false
set_option linter.all false
set_option maxRecDepth 100000
set_option maxHeartbeats 2000000
namespace DL
open PySem PySem.Spec PySem.Calls PyProof.Rows L2

/-! ### try, with clauses that may name the exception -/
abbrev VHd := Value × Option Nat × (Addr → Value → Option Addr → TS)
def dropE (i : Nat) (D : Ends) : Ends := { nx := fun σ H => D.nx (σ.set i none) H, rt := D.rt, bk := fun σ H => D.bk (σ.set i none) H, ct := fun σ H => D.ct (σ.set i none) H }
def wHs (K : PySem.W.Frag) (Wout : WX) (D : Ends) : List VHd → WX
  | [] => Wout
  | (c, none, ts) :: r => fun cls d σ H => ∃ b, PySem.W.exmOne K cls c = some b ∧ (b = true → ∀ a, H a = none → ts a cls d D σ H) ∧ (b = false → wHs K Wout D r cls d σ H)
  | (c, some i, ts) :: r => fun cls d σ H => ∃ b, PySem.W.exmOne K cls c = some b ∧ (b = true → ∀ a, H a = none → ts a cls d (dropE i D) (σ.set i (some (.ref a))) H) ∧ (b = false → wHs K Wout D r cls d σ H)
inductive THds (X : Cx) (T : Nat) : List ExceptHandler → List VHd → Prop
  | nil : THds X T [] []
  | plain {x : Str} {c : Value} {ts : Addr → Value → Option Addr → TS} {b₀ : Stmt} {suite : List Stmt} {np pos' : Pos} {hds : List ExceptHandler} {l : List VHd} (hc : Names X x c)
      (hsu : ∀ (a : Addr) (oe : Obj) (cls : Value) (d : Option Addr) (pn : List (Addr × Obj)), Zc cls d oe → (∃ vs, oe.data = .fields vs) → TPSs (X.suite a ((a, oe) :: pn)) T (b₀ :: suite) (ts a cls d)) (r : THds X T hds l) :
      THds X T (.ExceptHandler (some (.Name x np)) none (b₀ :: suite) pos' :: hds) ((c, none, ts) :: l)
  | named {x n : Str} {i : Nat} {c : Value} {ts : Addr → Value → Option Addr → TS} {b₀ : Stmt} {suite : List Stmt} {np pos' : Pos} {hds : List ExceptHandler} {l : List VHd} (hc : Names X x c) (hN : X.N.Nodup) (hi : X.N[i]? = some n) (hl : X.env.kindOf n = some .local)
      (hsu : ∀ (a : Addr) (oe : Obj) (cls : Value) (d : Option Addr) (pn : List (Addr × Obj)), Zc cls d oe → (∃ vs, oe.data = .fields vs) → TPSs (X.suite a ((a, oe) :: pn)) T (b₀ :: suite) (ts a cls d)) (r : THds X T hds l) :
      THds X T (.ExceptHandler (some (.Name x np)) (some n) (b₀ :: suite) pos' :: hds) ((c, some i, ts) :: l)
theorem tps_try {X : Cx} {T : Nat} {body : List Stmt} {h₀ : ExceptHandler} {hds : List ExceptHandler} {l : List VHd} {pos : Pos} {tb : WX → TS} {Wout : WX} (hs : X.stack = X.env :: X.outer) (hf : X.env.frame = some X.env.locals) (tk : Takes X Wout)
    (hb : ∀ (W : WX) (pn : List (Addr × Obj)) (xe : Value → Shared → Prop), Takes (X.tr pn xe) W → PassesOwn (model X.prog X.w) X.A X.env xe → TPSs (X.tr pn xe) T body (tb W))
    (hh : THds X T (h₀ :: hds) l) : TPS X T (.Try body (h₀ :: hds) [] [] pos) (fun D σ H => tb (wHs X.K Wout D l) D σ H) := ⟨fun pins s σ H D I kT h => by
  have ok := I.ok
  have hfr : X.A.frames = some (X.env :: X.outer) := by rw [ok.frames, hs]
  refine wpAny_Try_except ?_
  refine wpAny_mono (wpAny_toks_of kT ((hb (wHs X.K Wout D l) (X.pn ++ pins) (fun e s₁ => wpAny (model X.prog X.w) X.A (noteFrame e X.env) (fun _ s₂ => T ≤ s₂.toks → wpAny (model X.prog X.w) X.A (setFlight e none) (fun _ s₃ => T ≤ s₃.toks →
    wpAny (model X.prog X.w) X.A (handleBy e X.env (h₀ :: hds)) (SP X pins D) X.xe s₃) X.xe s₂) X.xe s₁) (fun u s' xx => ?_) PassesOwn.looking).run [] s σ H D (I.toTry _) kT h)) (fun f s1 z => ?_) (fun e s1 z => ?_)
  · obtain ⟨a, B, sI, pins', σ', H', cls, d, rfl, J', nb, up, sky, na, os, ag, w⟩ := xx
    have J : Inv X pins σ' H' sI := J'.ofTry ok
    have sky' : Sky B (X.env :: X.outer) a (Zc cls d) X.env.locals s'.heap := by rw [← hs]; exact sky
    show wpAny (model X.prog X.w) X.A (noteFrame (.ref a) X.env) _ _ _
    refine wpAny_mono (Sky.land (Q := fun _ s₃ => T ≤ s₃.toks → wpAny (model X.prog X.w) X.A (handleBy (.ref a) X.env (h₀ :: hds)) (SP X pins D) X.xe s₃) (E₁ := X.xe) Zc.steady hfr hf sky' fun h3 fl3 up3 k3 => ?_) (fun _ _ x _ => x) (fun _ _ x => x)
    have k3 : T ≤ s'.toks := k3
    have J3 : Inv X pins σ' H' { s' with heap := h3 } := J.landed nb fl3.1 (up.trans up3) os ag
    obtain ⟨oe3, vs3, he3, hz3, hd3⟩ := fl3.there
    have nfr : a ∉ frs (X.env :: X.outer) := fun hm => by
      obtain ⟨_, o', e', hnf⟩ := fl3.2.2.1.mem hm
      rw [he3] at e'; cases e'
      exact hnf _ hd3
    have nL : a ≠ X.env.locals := fun z => nfr (List.mem_filterMap.mpr ⟨X.env, List.mem_cons_self, by rw [hf, z]⟩)
    have nF : a ∉ X.fs := fun hm => by
      obtain ⟨e, he, q⟩ := List.mem_filterMap.mp hm
      exact nfr (List.mem_filterMap.mpr ⟨e, List.mem_cons_of_mem _ he, q⟩)
    have S3 := J3.suite he3 hd3 na nL nF
    have LT : PySem.W.Looks (model X.prog X.w) h3 (typeOf (.ref a)) cls := fun A Q E s k q => wpAny_typeOf_ref (k _ _ he3) (by rw [hz3.1]; exact q)
    have test : ∀ {x : Str} {c : Value} {np : Pos} {Q : Value → Shared → Prop} {E : Value → Shared → Prop}, Names X x c → Q c { s' with heap := h3 } → wpAny (model X.prog X.w) (X.A.mark (some (.ref a))) (eval (.Name x np) X.env) Q E { s' with heap := h3 } := fun {x c np Q E} hc q => by
      obtain ⟨hg, hdbg, hm | ⟨hm, hv, hnn⟩⟩ := hc
      · exact ld_glob (X := X.suite a ((a, oe3) :: (X.pn ++ pins))) S3 hg hm q hdbg
      · exact ld_blt (X := X.suite a ((a, oe3) :: (X.pn ++ pins))) S3 hg hm hv q hnn hdbg
    have go : ∀ {hds' : List ExceptHandler} {l' : List VHd}, THds X T hds' l' → wHs X.K Wout D l' cls d σ' H' → wpAny (model X.prog X.w) X.A (handleBy (.ref a) X.env hds') (SP X pins D) X.xe { s' with heap := h3 } := by
      intro hds' l' hk
      induction hk with
      | nil =>
        intro w
        refine wpAny_handleBy_nil ?_
        obtain ⟨k1, k2, k3, oe, vs, Tb, oT, ts', he, hz, hd, h1, hr⟩ := id fl3
        unfold PySem.passOn
        refine wpAny_bind (wpAny_field he hd h1 ?_)
        rw [if_neg (show ¬ ((Value.ref Tb == Value.none) = true) from by simp)]
        have fin : wpAny (model X.prog X.w) X.A (setFlight (.ref a) X.env.frame) (fun _ s4 => wpAny (model X.prog X.w) X.A (throw (.ref a) : Sem Flow) (SP X pins D) X.xe s4) X.xe { s' with heap := h3 } := by
          rw [hf]
          refine HandSPX.setFlight_upZ fl3 fun h4 hh4 up4 => wpAny_throw (tk _ _ ?_)
          exact ⟨a, B, sI, pins, σ', H', cls, d, rfl, J, nb, (up.trans up3).trans up4, .inr (.inr (by rw [hs]; exact hh4)), na, os, ag, w⟩
        first
          | exact wpAny_bind (wpAny_pure (wpAny_bind fin))
          | exact wpAny_bind fin
      | @plain x c ts b₀ suite np pos' hds2 l2 hc hsu r ih =>
        intro w
        obtain ⟨b, hb1, hyes, hno⟩ := w
        refine wpAny_handleBy_cons (codeAny_handlers_test ?_) (by intro q; cases q)
        refine test hc ((PySem.W.exm_one (M := model X.prog X.w) J3.kIn LT hb1).here ?_)
        cases b with
        | true =>
          refine codeAny_handlers_suite ?_
          refine HandSPX.lands_againZ fl3 fun h4 fl4 up4 => ?_
          have J4 : Inv X pins σ' H' { s' with heap := h4 } := J.landed nb fl4.1 ((up.trans up3).trans up4) os ag
          obtain ⟨oe4, vs4, he4, hz4, hd4⟩ := fl4.there
          have S4 := J4.suite he4 hd4 na nL nF
          refine wpAny_mono ((hsu a oe4 cls d (X.pn ++ pins) hz4 ⟨_, hd4⟩).run [] _ _ H' _ S4 k3 (hyes rfl a na)) (fun f s6 hsp => ?_) (fun _ _ z => False.elim z)
          cases f with
          | ret u => obtain ⟨v6, σ6, H6, S6, r6, q6⟩ := hsp; exact ⟨_, _, _, S6.unsuite ok, r6, q6⟩
          | next => obtain ⟨σ6, H6, S6, q6⟩ := hsp; exact ⟨_, _, S6.unsuite ok, q6⟩
          | brk => obtain ⟨σ6, H6, S6, q6⟩ := hsp; exact ⟨_, _, S6.unsuite ok, q6⟩
          | cont => obtain ⟨σ6, H6, S6, q6⟩ := hsp; exact ⟨_, _, S6.unsuite ok, q6⟩
        | false => exact ih (hno rfl)
      | @named x n i c ts b₀ suite np pos' hds2 l2 hc hN hi hln hsu r ih =>
        intro w
        obtain ⟨b, hb1, hyes, hno⟩ := w
        refine wpAny_handleBy_cons (codeAny_handlers_test ?_) (by intro q; cases q)
        refine test hc ((PySem.W.exm_one (M := model X.prog X.w) J3.kIn LT hb1).here ?_)
        cases b with
        | true =>
          refine codeAny_handlers_suite_as ?_
          refine HandSPX.lands_againZ fl3 fun h4 fl4 up4 => ?_
          have J4 : Inv X pins σ' H' { s' with heap := h4 } := J.landed nb fl4.1 ((up.trans up3).trans up4) os ag
          obtain ⟨oe4, vs4, he4, hz4, hd4⟩ := fl4.there
          have S4 := J4.suite he4 hd4 na nL nF
          refine wpAny_with_toks k3 (store_ok (X := X.suite a ((a, oe4) :: (X.pn ++ pins))) (v := .ref a) S4 hN hi (.inl hln) rfl (fun s5 S5 k5 => ?_) (.inr hln))
          refine wpAny_mono ((hsu a oe4 cls d (X.pn ++ pins) hz4 ⟨_, hd4⟩).run [] s5 _ H' _ S5 k5 (hyes rfl a na)) (fun f s6 hsp => ?_) (fun _ _ z => False.elim z)
          have end_ : ∀ {σ6 : L2.St} {H6 : Hp} {Q : Shared → Prop}, Inv (X.suite a ((a, oe4) :: (X.pn ++ pins))) [] σ6 H6 s6 → (∀ s7, Inv X pins (σ6.set i none) H6 s7 → Q s7) →
              wpAny (model X.prog X.w) X.A (do bindName X.env n .none; unbindBehindTheSuite X.env n pos') (fun _ s7 => Q s7) X.xe s6 := fun {σ6 H6 Q} S6 hq => gone_ok (S6.unsuite ok) hN hi hln hq
          cases f with
          | ret u => obtain ⟨v6, σ6, H6, S6, r6, q6⟩ := hsp; exact end_ S6 fun s7 J7 => ⟨_, _, _, J7, r6, q6⟩
          | next => obtain ⟨σ6, H6, S6, q6⟩ := hsp; exact end_ S6 fun s7 J7 => ⟨_, _, J7, q6⟩
          | brk => obtain ⟨σ6, H6, S6, q6⟩ := hsp; exact end_ S6 fun s7 J7 => ⟨_, _, J7, q6⟩
          | cont => obtain ⟨σ6, H6, S6, q6⟩ := hsp; exact end_ S6 fun s7 J7 => ⟨_, _, J7, q6⟩
        | false => exact ih (hno rfl)
    exact go hh w
  · obtain ⟨k1, hsp⟩ := z
    cases f with
    | next => obtain ⟨σ', H', J', q⟩ := hsp; exact wpAny_execs_nil ⟨σ', H', J'.ofTry ok, q⟩
    | brk => obtain ⟨σ', H', J', q⟩ := hsp; exact ⟨σ', H', J'.ofTry ok, q⟩
    | cont => obtain ⟨σ', H', J', q⟩ := hsp; exact ⟨σ', H', J'.ofTry ok, q⟩
    | ret u => obtain ⟨v, σ', H', J', r, q⟩ := hsp; exact ⟨v, σ', H', J'.ofTry ok, r, q⟩
  · exact wpAny_mono (wpAny_toks_of z.1 z.2) (fun _ s2 x => wpAny_mono (wpAny_toks_of x.1 (x.2 x.1)) (fun _ s3 y => y.2 y.1) fun _ _ y => y.2) fun _ _ x => x.2⟩

/-! ### the same of data -/
abbrev QHd := Value × Option Nat × (Addr → Addr → Option Addr → QS)
/-- the exception as a clause's name has it -/
def excD (C a : Addr) (d : Option Addr) (fs : List (Str × D)) : D := match fs, d with
  | f :: fs, some dd => .exc C a dd ((f :: fs).map (·.1)) ((f :: fs).map (·.2))
  | _, _ => .ref a
def qSuite (B : QB) (ρ : PSt) (C : Addr) (fs : List (Str × D)) (M : Mp) : Option Nat × (Addr → Addr → Option Addr → QS) → Prop
  | (none, q) => ∀ a d, (fs = [] ∨ d.isSome = true) → q C a d { B with ex := fun _ => noX } ρ M
  | (some i, q) => ∀ a d, (fs = [] ∨ d.isSome = true) → q C a d { nx := fun ρ' M' => B.nx (st ρ' i none) M', rt := B.rt, ex := fun _ => noX, bk := fun ρ' M' => B.bk (st ρ' i none) M', ct := fun ρ' M' => B.ct (st ρ' i none) M' } (st ρ i (some (excD C a d fs))) M
/-- tbl: which clause takes which class -/
def qTry (tbl : List (Addr × Nat)) (hs : List QHd) (tb : QS) : QS := fun B ρ M => tb { B with ex := fun ρ' C fs M' => match tbl.lookup C with
  | some j => match hs[j]? with
    | some h => qSuite B ρ' C fs M' h.2
    | none => False
  | none => False } ρ M
def selC (K : PySem.W.Frag) (cls : Value) : List Value → Nat → Bool
  | c :: _, 0 => decide (PySem.W.exmOne K cls c = some true)
  | c :: r, n + 1 => decide (PySem.W.exmOne K cls c = some false) && selC K cls r n
  | [], _ => false
theorem selC_cons {K : PySem.W.Frag} {cls c : Value} {r : List Value} {n : Nat} (h : selC K cls (c :: r) (n + 1) = true) : PySem.W.exmOne K cls c = some false ∧ selC K cls r n = true := by
  unfold selC at h
  rw [Bool.and_eq_true, decide_eq_true_eq] at h
  exact h
def tblOk (K : PySem.W.Frag) (tbl : List (Addr × Nat)) (cs : List Value) : Bool := tbl.all fun p => selC K (.ref p.1) cs p.2
def onRef (f : Addr → TS) : Value → TS
  | .ref C => f C
  | _ => fun _ _ _ => False
def lowHd (K : PySem.W.Frag) : QHd → VHd
  | (c, sl, q) => (c, sl, fun a cls d => onRef (fun C => lowS K noW (q C a d)) cls)
inductive QHds (X : Cx) (T : Nat) : List ExceptHandler → List QHd → Prop
  | nil : QHds X T [] []
  | plain {x : Str} {c : Value} {q : Addr → Addr → Option Addr → QS} {b₀ : Stmt} {suite : List Stmt} {np pos' : Pos} {hds : List ExceptHandler} {l : List QHd} (hc : Names X x c)
      (hsu : ∀ (a : Addr) (oe : Obj) (C : Addr) (d : Option Addr) (pn : List (Addr × Obj)), Zc (.ref C) d oe → (∃ vs, oe.data = .fields vs) → QPSs (X.suite a ((a, oe) :: pn)) T noW (b₀ :: suite) (q C a d)) (r : QHds X T hds l) :
      QHds X T (.ExceptHandler (some (.Name x np)) none (b₀ :: suite) pos' :: hds) ((c, none, q) :: l)
  | named {x n : Str} {i : Nat} {c : Value} {q : Addr → Addr → Option Addr → QS} {b₀ : Stmt} {suite : List Stmt} {np pos' : Pos} {hds : List ExceptHandler} {l : List QHd} (hc : Names X x c) (hN : X.N.Nodup) (hi : X.N[i]? = some n) (hl : X.env.kindOf n = some .local)
      (hsu : ∀ (a : Addr) (oe : Obj) (C : Addr) (d : Option Addr) (pn : List (Addr × Obj)), Zc (.ref C) d oe → (∃ vs, oe.data = .fields vs) → QPSs (X.suite a ((a, oe) :: pn)) T noW (b₀ :: suite) (q C a d)) (r : QHds X T hds l) :
      QHds X T (.ExceptHandler (some (.Name x np)) (some n) (b₀ :: suite) pos' :: hds) ((c, some i, q) :: l)
theorem on_ref {X : Cx} {T : Nat} {sts : List Stmt} {f : Addr → TS} {cls : Value} (h : ∀ C, cls = .ref C → TPSs X T sts (f C)) : TPSs X T sts (onRef f cls) := by
  cases cls with
  | ref C => exact h C rfl
  | _ => exact ⟨fun _ _ _ _ _ _ _ z => z.elim⟩
theorem QHds.low {X : Cx} {T : Nat} {hds : List ExceptHandler} {l : List QHd} (h : QHds X T hds l) : THds X T hds (l.map (lowHd X.K)) := by
  induction h with
  | nil => exact .nil
  | plain hc hsu r ih => exact .plain hc (fun a oe cls d pn hz hf => on_ref fun C e => (hsu a oe C d pn (e ▸ hz) hf).ps) ih
  | named hc hN hi hl hsu r ih => exact .named hc hN hi hl (fun a oe cls d pn hz hf => on_ref fun C e => (hsu a oe C d pn (e ▸ hz) hf).ps) ih
theorem rep_exc {K : PySem.W.Frag} {H : Hp} {C a : Addr} {d : Option Addr} {fs : List (Str × D)} (x : RepX K H d fs) : Rep K H (.ref a) (excD C a d fs) := by
  rcases x with ⟨rfl, rfl⟩ | ⟨dd, vs, rfl, h1, h2⟩
  · show Rep K H (.ref a) (.ref a)
    rw [Rep]
  · cases fs with
    | nil => show Rep K H (.ref a) (.ref a); rw [Rep]
    | cons f fs =>
      show Rep K H (.ref a) (.exc C a dd _ _)
      rw [Rep]
      exact ⟨rfl, vs, h1, h2.1, h2.2⟩
theorem repX_some {K : PySem.W.Frag} {H : Hp} {d : Option Addr} {fs : List (Str × D)} (x : RepX K H d fs) : fs = [] ∨ d.isSome = true := by
  rcases x with ⟨rfl, rfl⟩ | ⟨dd, vs, rfl, h1, h2⟩
  · exact .inl rfl
  · exact .inr rfl
theorem low_hs {K : PySem.W.Frag} {Wout : WX} {Dn : Ends} {B : QB} {cls : Addr} {d : Option Addr} {fs : List (Str × D)} : ∀ {l : List QHd} {j : Nat} {h : QHd} {σ : L2.St} {ρ : PSt} {H : Hp} {M : Mp}, selC K (.ref cls) (l.map (·.1)) j = true → l[j]? = some h →
    OkB K Wout Dn H B → RepS K H σ ρ → RepM K H M → RepX K H d fs → qSuite B ρ cls fs M h.2 → wHs K Wout Dn (l.map (lowHd K)) (.ref cls) d σ H
  | [], j, h, σ, ρ, H, M, h1, h2, ok, s, m, x, q => by simp at h2
  | (c, none, q0) :: r, 0, h, σ, ρ, H, M, h1, h2, ok, s, m, x, q => by
    cases (show some _ = some _ from h2)
    have e : PySem.W.exmOne K (.ref cls) c = some true := of_decide_eq_true (show decide _ = true from h1)
    refine ⟨true, e, fun _ a na => ⟨ρ, M, _, s, m, q a d (repX_some x), ?_⟩, fun z => nomatch z⟩
    exact ⟨ok.nx, ok.bk, ok.ct, ok.rt, fun _ _ _ _ _ _ _ _ _ _ _ z => z⟩
  | (c, some i, q0) :: r, 0, h, σ, ρ, H, M, h1, h2, ok, s, m, x, q => by
    cases (show some _ = some _ from h2)
    have e : PySem.W.exmOne K (.ref cls) c = some true := of_decide_eq_true (show decide _ = true from h1)
    refine ⟨true, e, fun _ a na => ⟨_, M, _, s.set (rep_exc (a := a) x), m, q a d (repX_some x), ?_⟩, fun z => nomatch z⟩
    exact ⟨fun σ' ρ' H' M' e s' m' z => ok.nx _ _ H' M' e s'.del m' z, fun σ' ρ' H' M' e s' m' z => ok.bk _ _ H' M' e s'.del m' z, fun σ' ρ' H' M' e s' m' z => ok.ct _ _ H' M' e s'.del m' z, ok.rt, fun _ _ _ _ _ _ _ _ _ _ _ z => z⟩
  | (c, none, q0) :: r, j + 1, h, σ, ρ, H, M, h1, h2, ok, s, m, x, q => by
    obtain ⟨e, h3⟩ := selC_cons h1
    exact ⟨false, e, (fun z => nomatch z), fun _ => low_hs (l := r) h3 (by simpa using h2) ok s m x q⟩
  | (c, some i, q0) :: r, j + 1, h, σ, ρ, H, M, h1, h2, ok, s, m, x, q => by
    obtain ⟨e, h3⟩ := selC_cons h1
    exact ⟨false, e, (fun z => nomatch z), fun _ => low_hs (l := r) h3 (by simpa using h2) ok s m x q⟩
theorem mem_lookup_of : ∀ {tbl : List (Addr × Nat)} {C : Addr} {j : Nat}, tbl.lookup C = some j → (C, j) ∈ tbl
  | [], _, _, h => by simp at h
  | (a, b) :: r, C, j, h => by
    rw [List.lookup_cons] at h
    split at h
    · rename_i e
      have e : C = a := by simpa using e
      cases h
      rw [e]
      exact List.mem_cons_self ..
    · exact List.mem_cons_of_mem _ (mem_lookup_of h)
theorem s_try {X : Cx} {T : Nat} {body : List Stmt} {h₀ : ExceptHandler} {hds : List ExceptHandler} {l : List QHd} {pos : Pos} {tb : QS} {Wout : WX} {tbl : List (Addr × Nat)} (hs : X.stack = X.env :: X.outer) (hf : X.env.frame = some X.env.locals) (tk : Takes X Wout)
    (hb : ∀ (W : WX) (pn : List (Addr × Obj)) (xe : Value → Shared → Prop), Takes (X.tr pn xe) W → PassesOwn (model X.prog X.w) X.A X.env xe → QPSs (X.tr pn xe) T W body tb)
    (hh : QHds X T (h₀ :: hds) l) (ht : tblOk X.K tbl (l.map (·.1)) = true) : QPS X T Wout (.Try body (h₀ :: hds) [] [] pos) (qTry tbl l tb) := ⟨(tps_try hs hf tk (tb := fun W => lowS X.K W tb) (fun W pn xe h1 h2 => (hb W pn xe h1 h2).ps) hh.low).impD fun Dn σ H h => by
  obtain ⟨ρ, M, B, hS, hM, hq, ok⟩ := h
  refine ⟨ρ, M, _, hS, hM, hq, ⟨ok.nx, ok.bk, ok.ct, ok.rt, fun C dd fs σ' ρ' H' M' e s m x q => ?_⟩⟩
  dsimp only at q
  split at q
  · rename_i j hj
    split at q
    · rename_i h hh'
      have hmem := mem_lookup_of hj
      exact low_hs (List.all_eq_true.mp ht _ hmem) hh' (ok.ext e) s m x q
    · exact q.elim
  · exact q.elim⟩
/-- e.f of the caught exception -/
def qXf (Cs : List Addr) (C a : Addr) (d : Option Addr) (f : Str) (te : QE) : QE := fun ρ M Q E => te ρ M (fun x M1 => match x with
  | .exc C' a' dd ns xs => (C' = C ∧ a' = a ∧ d = some dd ∧ C ∈ Cs) ∧ match (ns.zip xs).lookup f with
    | some y => Q y M1
    | none => False
  | _ => False) E
theorem lookup_zip {K : PySem.W.Frag} {H : Hp} {f : Str} {d : D} : ∀ {fs : List (Str × V)} {ns : List Str} {xs : List D}, fs.map (·.1) = ns → Reps K H (fs.map (·.2)) xs → (ns.zip xs).lookup f = some d → ∃ v, fs.lookup f = some v ∧ Rep K H v d
  | [], ns, xs, h1, h2, h3 => by
    subst h1
    simp at h3
  | (g, v) :: fs, ns, xs, h1, h2, h3 => by
    subst h1
    cases xs with
    | nil => simp at h3
    | cons x xs =>
      obtain ⟨v', r, e, r1, r2⟩ := reps_inv h2
      obtain ⟨rfl, rfl⟩ := List.cons.inj e
      simp only [List.map_cons, List.zip_cons_cons] at h3
      rw [List.lookup_cons] at h3 ⊢
      split at h3
      · rename_i e
        cases h3
        refine ⟨v, ?_, r1⟩
        simp [e]
      · rename_i e
        obtain ⟨w, h4, h5⟩ := lookup_zip (ns := fs.map (·.1)) rfl r2 h3
        exact ⟨w, h4, h5⟩
theorem tpe_xf {X : Cx} {T : Nat} {a C : Addr} {oe : Obj} {cls : Value} {d : Option Addr} {pn : List (Addr × Obj)} {e : Expr} {te : TE} {pos : Pos} {n : Str} (hfs : ∀ C, cls = .ref C → XfC X.K C ∧ PySem.W.findIn X.K (.ref C) n = some none)
    (hz : Zc cls d oe) (hf : ∃ vs, oe.data = .fields vs) (he : TPE (X.suite a ((a, oe) :: pn)) T e te) (hb : attributeBase e n X.env (eval e X.env) = eval e X.env) :
    TPE (X.suite a ((a, oe) :: pn)) T (.Attribute e n pos) (tXf a cls d C n te) := ⟨fun pins s σ H Q I k h => by
  refine attr_of hb (thn (he.run pins s σ H _ I k h) fun u s1 hh => ?_)
  obtain ⟨x, H1, I1, rx, ex, ec, dd, fs, v, ed, ea, l, q⟩ := hh
  subst ex
  obtain rfl : u = Value.ref a := rx
  subst ec ed
  obtain ⟨xf, hno⟩ := hfs C rfl
  obtain ⟨ha, _⟩ := I1.pin (a, oe) (List.mem_append_left _ List.mem_cons_self)
  obtain ⟨vs, hd⟩ := hf
  obtain ⟨mA, hns, hr⟩ := (show ObjOk X.prog X.w H1 s1.heap dd (.xd fs) from I1.hok dd _ ea)
  obtain ⟨od, ho, hl⟩ := lookIn_ns hns
  obtain ⟨u, hu, ru⟩ := RelO.some_of (v := v) (o := mA n) (by rw [← l]; exact hr n)
  have J : PySem.W.InstAt s1.heap a oe C (some od) := ⟨ha, hz.1, by unfold PySem.W.notCls; rw [hd] <;> rfl, by rw [hz.2]; exact ho⟩
  exact HandSPX.exc_get I1.kIn J xf.ga xf.gg xf.exC (PySem.W.findObj_own xf.hdC hno rfl (by rw [hl, hu])) (handed_of ru) ⟨v, H1, I1.tok _, ru, q⟩⟩
theorem q_xf {X : Cx} {T : Nat} {a C : Addr} {oe : Obj} {d : Option Addr} {pn : List (Addr × Obj)} {e : Expr} {te : QE} {pos : Pos} {n : Str} {Cs : List Addr} (hfs : (Cs.all fun C => xfB X.K C && decide (PySem.W.findIn X.K (.ref C) n = some none)) = true)
    (hz : Zc (.ref C) d oe) (hf : ∃ vs, oe.data = .fields vs) (he : QPE (X.suite a ((a, oe) :: pn)) T noW e te) (hb : attributeBase e n X.env (eval e X.env) = eval e X.env := by rfl) :
    QPE (X.suite a ((a, oe) :: pn)) T noW (.Attribute e n pos) (qXf Cs C a d n te) := ⟨⟨fun pins s σ H Q I k h => by
  by_cases hC : C ∈ Cs
  · have := List.all_eq_true.mp hfs C hC
    rw [Bool.and_eq_true, decide_eq_true_eq] at this
    refine ((tpe_xf (C := C) (fun C' e => by cases e; exact ⟨xfB_ok this.1, this.2⟩) hz hf he.pe hb).impD fun σ H Q h => ?_).run pins s σ H Q I k h
    obtain ⟨ρ, M, Qd, E, hs, hm, ht, hq, hx⟩ := h
    refine ⟨ρ, M, _, E, hs, hm, ht, fun v x H1 M1 e1 m1 r1 q1 => ?_, hx⟩
    cases x with
    | exc C' a' dd ns xs =>
      rw [Rep] at r1
      obtain ⟨rfl, fs, h1, h2, h3⟩ := r1
      obtain ⟨⟨rfl, rfl, rfl, _⟩, q1⟩ := q1
      split at q1
      · rename_i y hy
        obtain ⟨v, h4, h5⟩ := lookup_zip h2 h3 hy
        exact ⟨rfl, rfl, dd, fs, v, rfl, h1, h4, hq _ _ H1 M1 e1 m1 h5 q1⟩
      · exact q1.elim
    | _ => exact q1.elim
  · obtain ⟨ρ, M, Qd, E, hs, hm, ht, hq, hx⟩ := h
    refine attr_of hb (thn (he.pe.run pins s σ H (fun _ _ => False) I k ⟨ρ, M, _, E, hs, hm, ht, fun v x H1 M1 e1 m1 r1 q1 => ?_, hx⟩) fun _ _ z => ?_)
    · cases x with
      | exc C' a' dd ns xs => exact hC q1.1.2.2.2
      | _ => exact q1.elim
    · obtain ⟨_, _, _, _, z⟩ := z
      exact z.elim⟩⟩
end DL
end

section
set_option Elab.async false
set_option linter.all false
set_option maxRecDepth 100000
set_option maxHeartbeats 2000000
namespace DL
open PySem PySem.Spec PySem.Calls PyProof.Rows L2

theorem rep_int {K : PySem.W.Frag} {H : Hp} {v : V} {i : Int} : Rep K H v (.int i) ↔ v = .int i := by rw [Rep]
theorem rep_str {K : PySem.W.Frag} {H : Hp} {v : V} {z : List Nat} : Rep K H v (.str z) ↔ v = .str ⟨z.toArray⟩ := by rw [Rep]
/-! ### large ints -/
section
variable {X : Cx} {T : Nat} {W : WX} {pos : Pos}
def rFdivW : Q2 := fun x y M Q => match x, y with
  | .int i, .int j => CDivW i j ∧ Q (.int (i / j)) M
  | _, _ => False
theorem oq_fdivW : OpQ X (binaryOp .FloorDiv) rFdivW := oq_int op_fdivW fun i j H => by rw [Rep]
def rIfdivW : Q2 := fun x y M Q => match x, y with
  | .int i, .int j => CDivW i j ∧ Q (.int (i / j)) M
  | _, _ => False
theorem oq_ifdivW : OpQ X (inplaceOp .FloorDiv) rIfdivW := oq_int iop_fdivW fun i j H => by rw [Rep]
/-- * of ints, and of a text and an int -/
def rMulW : Q2 := fun x y M Q => match x, y with
  | .int i, .int j => (CMul i j ∨ CMulW i j) ∧ Q (.int (i * j)) M
  | .str a, .int j => (2 ≤ j ∧ 0 < a.length ∧ a.length * j.toNat ≤ 16777216) ∧ Q (.str (List.replicate j.toNat a).flatten) M
  | _, _ => False
theorem foldl_app (x : Array Nat) : ∀ (n : Nat) (acc : Array Nat), (List.replicate n x).foldl (· ++ ·) acc = acc ++ (List.replicate n x.toList).flatten.toArray
  | 0, acc => by simp
  | n + 1, acc => by
    rw [List.replicate_succ, List.foldl_cons, foldl_app x n, List.replicate_succ, List.flatten_cons]
    rw [Array.append_assoc]
    congr 1
    apply Array.ext'
    simp
theorem oq_mulW : OpQ X (binaryOp .Mult) rMulW := by
  intro pins s σ H x y v u Q I rx ry h
  obtain ⟨dx, dy, M, Qd, r1, r2, m, q, k⟩ := h
  unfold rMulW at q
  split at q
  · rename_i i j
    rcases q.1 with hc | hc
    · exact op_mul pins s σ H x y v u Q I rx ry ⟨i, j, rep_int.mp r1, rep_int.mp r2, hc, k _ _ H M (HExt.refl H) m (rep_int.mpr rfl) q.2⟩
    · exact op_mulW pins s σ H x y v u Q I rx ry ⟨i, j, rep_int.mp r1, rep_int.mp r2, hc, k _ _ H M (HExt.refl H) m (rep_int.mpr rfl) q.2⟩
  · rename_i a j
    cases rep_str.mp r1
    cases rep_int.mp r2
    obtain ⟨t, rfl⟩ := rx
    obtain ⟨t2, rfl⟩ := ry
    obtain ⟨⟨h1, h2, h3⟩, q⟩ := q
    have hl : (⟨a.toArray⟩ : Str).length = a.length := str_len a
    obtain ⟨n, rfl⟩ : ∃ n : Nat, j = n := ⟨j.toNat, (Int.toNat_of_nonneg (by omega)).symm⟩
    rw [Int.toNat_natCast] at h3 q
    have h1 : 2 ≤ n := by omega
    have hb : a.length * n ≤ 16777216 := h3
    have hn : n ≤ 16777216 := Nat.le_trans (by have := Nat.mul_le_mul_right n h2; rw [Nat.succ_mul, Nat.zero_mul, Nat.zero_add] at this; exact this) hb
    have e0 : ((n : Int) == 1 || (⟨a.toArray⟩ : Str).length == 0) = false := by
      rw [hl]
      have a1 : ((n : Int) == 1) = false := beq_eq_false_iff_ne.mpr (by omega)
      have a2 : (a.length == 0) = false := beq_eq_false_iff_ne.mpr (by omega)
      rw [a1, a2]; rfl
    have e : (List.replicate n (⟨a.toArray⟩ : Str).cps).foldl (· ++ ·) #[] = (List.replicate n a).flatten.toArray := by
      rw [foldl_app]; simp
    refine P.mul_str ?_ (fun _ _ => ?_) (fun _ _ => ?_) ?_
    · have b1 : decide ((n : Int) < -(2 ^ 63)) = false := decide_eq_false (by omega)
      have b2 : decide ((n : Int) ≥ 2 ^ 63) = false := decide_eq_false (by omega)
      rw [b1, b2]; rfl
    · rw [hl]
      have h5 : ((a.length : Int) * n) ≤ 2 ^ 63 - 1 := by
        have : ((a.length * n : Nat) : Int) ≤ ((16777216 : Nat) : Int) := Int.ofNat_le.mpr hb
        rw [Int.natCast_mul] at this
        omega
      exact Int.not_lt.mpr ((Int.le_ediv_iff_mul_le (by omega)).mpr h5)
    · rw [hl, Int.toNat_natCast]
      unfold Builtin.Str.tooLong
      exact decide_eq_false (by rw [sizeLine_eq]; omega)
    · rw [if_neg (by omega), e0]
      simp only [Bool.false_eq_true, if_false]
      rw [Int.toNat_natCast, e]
      refine ⟨?_, show EP X pins σ Q _ _ from ⟨.str ⟨(List.replicate n a).flatten.toArray⟩, H, I.tok _, ⟨_, rfl⟩, k _ (.str (List.replicate n a).flatten) H M (HExt.refl H) m (rep_str.mpr rfl) q⟩⟩
      rw [str_len, List.length_flatten, List.map_replicate, List.sum_replicate_nat, sizeLine_eq, Nat.mul_comm]
      omega
  · exact q.elim

/-! ### o.replace of written texts, and of a text of the module -/
def replD (x y z : List Nat) : List Nat := (Txt.replace ⟨x.toArray⟩ ⟨y.toArray⟩ ⟨z.toArray⟩).cps.toList
def qRepl (y z : List Nat) (te : QE) : QE := fun ρ M Q E => te ρ M (fun v M1 => match v with
  | .str a => a.length + (a.length + 1) * z.length ≤ 16777216 ∧ Q (.str (replD a y z)) M1
  | _ => False) E
variable {o : Expr} {to : QE}
theorem low_repl {K : PySem.W.Frag} {σ : L2.St} {H : Hp} {Q : VK} {y z : Str} (h : lowE K W (qRepl y.cps.toList z.cps.toList to) σ H Q) : CwR.tReplC (lowE K W to) y z σ H Q := by
  obtain ⟨ρ, M, Qd, E, hs, hm, ht, hq, hx⟩ := h
  refine ⟨ρ, M, _, E, hs, hm, ht, fun v d H1 M1 e1 m1 r1 q1 => ?_, hx⟩
  cases d with
  | str a =>
    obtain ⟨q0, q1⟩ := q1
    refine ⟨_, rep_str.mp r1, ?_, hq _ _ H1 M1 e1 m1 (rep_str.mpr ?_) q1⟩
    · rw [str_len]
      have : z.length = z.cps.toList.length := by simp [Str.length]
      rw [this]
      exact q0
    · unfold replD
      simp
  | _ => exact q1.elim
theorem q_replC {y z : Str} {j k : Nat} {c0 c1 apos : Pos} (ho : QPE X T W o to) (hT : 1 ≤ T) (hyz : (y == z) = false := by decide)
    (hst : starEach [.Constant (.str y) j c0, .Constant (.str z) k c1] X.env = [(false, eval (.Constant (.str y) j c0) X.env), (false, eval (.Constant (.str z) k c1) X.env)] := by rfl)
    (hbase : attributeBase o "replace" X.env (eval o X.env) = eval o X.env := by rfl) (hline : (apos.endLine == pos.line) = true := by rfl) :
    QPE X T W (.Call (.Attribute o "replace" apos) [.Constant (.str y) j c0, .Constant (.str z) k c1] [] pos) (qRepl y.cps.toList z.cps.toList to) := ⟨⟨fun pins s σ H Q I kT h => by
  have h := low_repl h
  refine PySem.Call_method2 hbase hst hline (thT kT (ho.pe.run pins s σ H _ I kT h) fun v s1 k1 q => ?_)
  obtain ⟨v', H1, I1, r1, x, e1, hb, q⟩ := q
  subst e1
  obtain ⟨tx, rfl⟩ := r1
  refine ⟨"str", _, PySem.F.plainAttrs_str, PySem.F.slot_str_replace, PySem.F.type_str_replace, typeIs_str _ _ _, (fun _ e => nomatch e), Calls.callWith_builtin rfl (Calls.evalArgs_plain (Calls.spliced_cons ?_))⟩
  refine Calls.Constant_str (Calls.spliced_cons (Calls.Constant_str (Calls.spliced_nil ?_)))
  exact PySem.SC.replace (by show s1.toks ≠ 0; omega) (by show s1.toks + 1 ≠ 0; omega) (by show s1.toks ≠ s1.toks + 1; omega) hyz hb fun t' k => ⟨.str (Txt.replace x y z), H1, I1.tok k, ⟨t', rfl⟩, q⟩⟩⟩
/-- o.replace(G + G, G), G a sign that the module keeps -/
theorem q_replG {x : Str} {c : Nat} {tq : Tok} {apos p1 p2 p3 p4 : Pos} (ho : QPE X T W o to) (hg : Gl X x) (hm : X.mg x = some (.str ⟨#[c]⟩ tq)) (h0 : tq ≠ 0) (hT : tq < T) (hd : (x == ("__debug__" : Str)) = false := by decide)
    (hst : starEach [.BinOp (.Name x p1) .Add (.Name x p2) p3, .Name x p4] X.env = [(false, eval (.BinOp (.Name x p1) .Add (.Name x p2) p3) X.env), (false, eval (.Name x p4) X.env)] := by rfl)
    (hbase : attributeBase o "replace" X.env (eval o X.env) = eval o X.env := by rfl) (hline : (apos.endLine == pos.line) = true := by rfl) :
    QPE X T W (.Call (.Attribute o "replace" apos) [.BinOp (.Name x p1) .Add (.Name x p2) p3, .Name x p4] [] pos) (qRepl [c, c] [c] to) := ⟨⟨fun pins s σ H Q I kT h => by
  have h := low_repl (y := ⟨#[c, c]⟩) (z := ⟨#[c]⟩) h
  refine PySem.Call_method2 hbase hst hline (thT kT (ho.pe.run pins s σ H _ I kT h) fun v s1 k1 q => ?_)
  obtain ⟨v', H1, I1, r1, a, e1, hb, q⟩ := q
  subst e1
  obtain ⟨tx, rfl⟩ := r1
  refine ⟨"str", _, PySem.F.plainAttrs_str, PySem.F.slot_str_replace, PySem.F.type_str_replace, typeIs_str _ _ _, (fun _ e => nomatch e), Calls.callWith_builtin rfl (Calls.evalArgs_plain (Calls.spliced_cons ?_))⟩
  refine wpAny_BinOp (ld_glob I1 hg hm (ld_glob I1 hg hm (P.add_str ?_) hd) hd)
  rw [show ((⟨#[c]⟩ : Str).length == 0) = false from rfl]
  simp only [Bool.false_eq_true, if_false]
  refine ⟨by rw [show ((⟨#[c]⟩ : Str) ++ ⟨#[c]⟩) = ⟨#[c, c]⟩ from str_app [c] [c], sizeLine_eq]; show 2 ≤ 16777216; omega, ?_⟩
  refine Calls.spliced_cons (ld_glob (I1.tok (s1.toks + 1)) hg hm (Calls.spliced_nil ?_) hd)
  have hne : ((⟨#[c]⟩ : Str) ++ ⟨#[c]⟩ == (⟨#[c]⟩ : Str)) = false := by
    have e : ((⟨#[c]⟩ : Str) ++ ⟨#[c]⟩) = ⟨#[c, c]⟩ := str_app [c] [c]
    rw [e]
    refine beq_eq_false_iff_ne.mpr fun z => ?_
    have := congrArg (fun s : Str => s.cps.size) z
    simp at this
  have e : ((⟨#[c]⟩ : Str) ++ ⟨#[c]⟩) = ⟨#[c, c]⟩ := str_app [c] [c]
  rw [e] at hne ⊢
  exact PySem.SC.replace (Nat.ne_of_gt (Nat.lt_of_lt_of_le (Nat.lt_of_le_of_lt (Nat.zero_le _) hT) k1)) h0 (Nat.ne_of_gt (Nat.lt_of_lt_of_le hT k1)) hne hb fun t' k => ⟨.str (Txt.replace a ⟨#[c, c]⟩ ⟨#[c]⟩), H1, I1.tok k, ⟨t', rfl⟩, q⟩⟩⟩

/-! ### {'k': i}, and o[i] op= e -/
def qDis1 (k : List Nat) (i : Int) : QE := fun _ M Q _ => ∀ p, M p = none → Q (.ref p) (updM M p (.dic [(.inr ⟨k.toArray⟩, .int i)]))
/-- o[i] op= e: o a list -/
def rGetI : D → D → Mp → QK → Prop := fun o i M Q => match o, i with
  | .ref p, .int k => match M p with
    | some (.lst xs) => match atI xs k with
      | some d => Q d M
      | none => False
    | _ => False
  | _, _ => False
def lowGet (K : PySem.W.Frag) : V → V → Hp → VK → Prop := fun o i H Q => ∃ d f M Qd, Rep K H o d ∧ Rep K H i f ∧ RepM K H M ∧ rGetI d f M Qd ∧ ∀ v d H' M', HExt H H' → RepM K H' M' → Rep K H' v d → Qd d M' → Q v H'
theorem get_low : PGet X (lowGet X.K) := by
  intro pins s σ H o i ov iv Q I ro ri h
  obtain ⟨d, f, M, Qd, r1, r2, m, q, k⟩ := h
  unfold rGetI at q
  split at q
  · rename_i p n
    rw [Rep] at r1
    cases rep_int.mp r2
    subst r1
    split at q
    · rename_i xs e
      obtain ⟨vs, hp, t⟩ := m _ _ e
      split at q
      · rename_i y ey
        obtain ⟨w, hw, rw'⟩ := atI_reps t ey
        cases ro
        obtain ⟨tk, rfl⟩ := ri
        obtain ⟨its, r, pl, hz⟩ := I.list (.inl (.inl hp))
        obtain ⟨j, h1, h2, h3, h4, h5⟩ := atI_get hw
        obtain ⟨u, ew, ru⟩ := r.get h2
        have hl := r.length
        have hn := line63
        have fin : EP X pins σ Q u s := ⟨w, H, I, ru, k _ _ H M (HExt.refl H) m rw' q⟩
        by_cases h0 : 0 ≤ n
        · have hj : n.toNat = j := by
            rw [seqIndex_of h0 h5] at h1
            exact Option.some.inj h1
          exact wpAny_getItem_list pl.isList h0 (by omega) (by rw [hj]; simpa using ew) fin
        · have hj : (n + (its.toArray.size : Int)).toNat = j := by
            rw [seqIndex_neg (by omega) h4] at h1
            rw [List.size_toArray, ← hl]
            exact Option.some.inj h1
          exact wpAny_getItem_list_neg pl.isList (by omega) (by rw [List.size_toArray] <;> omega) (by omega) (by rw [hj]; simpa using ew) fin
      · exact q.elim
    · exact q.elim
  · exact q.elim
theorem tps_augS {i e : Expr} {to' ti te : TE} {tget : V → V → Hp → VK → Prop} {tip : TIp} {tset : TSet} {op : Operator} {tpos : Pos} (ho : TPE X T o to') (hi : TPE X T i ti) (hg : PGet X tget) (he : TPE X T e te) (hp : PIp X op tip) (hs : PSet X tset)
    (ha : ∀ ov iv new, augStore i ov iv new = (do holding [new, ov, iv] (setItem ov iv new); release [new, ov, iv] []; pure .next)) : TPS X T (.AugAssign (.Subscript o i tpos) op e pos) (tAugS to' ti te tget tip tset) := ⟨fun pins s σ H D I k h => by
  refine wpAny_AugAssign_SubscriptAny (thT k (ho.run pins s σ H _ I k h) fun ov s1 k1 ⟨x1, H1, I1, r1, q1⟩ => ?_) ha
  refine thT k1 (hi.run pins s1 σ H1 _ I1 k1 q1) fun iv s2 k2 ⟨x2, H2, I2, r2, q2⟩ => ?_
  refine thT k2 (hg pins s2 σ H2 x1 x2 ov iv _ I2 r1 r2 q2) fun old s3 k3 ⟨x3, H3, I3, r3, q3⟩ => ?_
  refine thn (he.run pins s3 σ H3 _ I3 k3 q3) fun v s4 ⟨x4, H4, I4, r4, q4⟩ => ?_
  refine thn (hp pins s4 σ H4 x3 x4 old v _ I4 r3 r4 q4) fun new s5 ⟨x5, H5, I5, r5, q5⟩ => ?_
  exact thn (hs pins s5 σ H5 x1 x2 x5 ov iv new _ I5 r1 r2 r5 q5) fun _ s6 ⟨H6, I6, q6⟩ => ⟨σ, H6, I6, q6⟩⟩
def qAugS (to ti te : QE) (r : Q2) : QS := fun B ρ M => to ρ M (fun o M1 => ti ρ M1 (fun i M2 => rGetI o i M2 fun x M3 => te ρ M3 (fun y M4 => r x y M4 fun z M5 => rSetI o i z M5 fun M6 => B.nx ρ M6) (B.ex ρ)) (B.ex ρ)) (B.ex ρ)
theorem s_augS {i e : Expr} {ti te : QE} {r : Q2} {op : Operator} {tpos : Pos} (ho : QPE X T W o to) (hi : QPE X T W i ti) (he : QPE X T W e te) (hp : OpQ X (inplaceOp op) r)
    (ha : ∀ ov iv new, augStore i ov iv new = (do holding [new, ov, iv] (setItem ov iv new); release [new, ov, iv] []; pure .next) := by intros; rfl) : QPS X T W (.AugAssign (.Subscript o i tpos) op e pos) (qAugS to ti te r) :=
  ⟨(tps_augS ho.pe hi.pe get_low he.pe (tip := lowR2 X.K r) (fun pins s σ H x y v u Q I rx ry q => hp pins s σ H x y v u Q I rx ry q) set_low ha).impD fun Dn σ H h => by
    obtain ⟨ρ, M, B, hs, hm, ht, ok⟩ := h
    refine ⟨ρ, M, _, B.ex ρ, hs, hm, ht, fun v d H1 M1 e1 m1 r1 q1 => ?_, ok.okX hs⟩
    refine ⟨ρ, M1, _, B.ex ρ, hs.ext e1, m1, q1, fun v2 d2 H2 M2 e2 m2 r2 q2 => ?_, (ok.ext e1).okX (hs.ext e1)⟩
    have e12 := e1.trans e2
    refine ⟨d, d2, M2, _, Rep.ext e2 _ _ r1, r2, m2, q2, fun v3 d3 H3 M3 e3 m3 r3 q3 => ?_⟩
    have e13 := e12.trans e3
    refine ⟨ρ, M3, _, B.ex ρ, hs.ext e13, m3, q3, fun v4 d4 H4 M4 e4 m4 r4 q4 => ?_, (ok.ext e13).okX (hs.ext e13)⟩
    have e14 := e13.trans e4
    refine ⟨d3, d4, M4, _, Rep.ext e4 _ _ r3, r4, m4, q4, fun v5 d5 H5 M5 e5 m5 r5 q5 => ?_⟩
    have e15 := e14.trans e5
    exact ⟨d, d2, d5, M5, _, Rep.ext (((e2.trans e3).trans e4).trans e5) _ _ r1, Rep.ext ((e3.trans e4).trans e5) _ _ r2, r5, m5, q5, fun H6 M6 e6 m6 q6 => ok.nx _ _ H6 M6 (e15.trans e6) (hs.ext (e15.trans e6)) m6 q6⟩⟩
theorem q_dis1 {k : Str} {i : Int} {j j' : Nat} {p0 p1 : Pos} : QPE X T W (.Dict [some (.Constant (.str k) j p0)] [.Constant (.int i) j' p1] pos) (qDis1 k.cps.toList i) := by
  refine ⟨(TPE.of (pe_disp (pps_cons pe_str pe_int pps_nil) rfl rfl (by simp) (by simp))).impD fun σ H Q h => ?_⟩
  obtain ⟨ρ, M, Qd, E, hs, hm, ht, hq, hx⟩ := h
  intro p hp
  refine ⟨upd_same, [(.inr k, .int i)], rfl, by simp, ?_⟩
  have en : HExt H (upd H p (.dK [])) := HExt.new hp
  rw [show mergeK [] [((.inr k : Key), V.int i)] = [(.inr k, V.int i)] from rfl]
  have e2 : upd (upd H p (.dK [])) p (.dK [(.inr k, V.int i)]) = upd H p (.dK [(.inr k, V.int i)]) := by
    funext b
    by_cases hb : b = p
    · rw [hb, upd_same, upd_same]
    · rw [upd_ne hb, upd_ne hb, upd_ne hb]
  rw [e2]
  exact hq _ (.ref p) _ _ (HExt.new hp) (hm.put (u := .dic [(.inr k, .int i)]) hp ⟨_, upd_same, rfl, reps_cons (rep_int.mpr rfl) reps_nil⟩) (by rw [Rep]) (by simpa using ht p (hm.free hp))
end
end DL
end

section
set_option Elab.async false
set_option linter.all false
set_option maxRecDepth 100000
set_option maxHeartbeats 2000000
namespace DL
open PySem PySem.Spec PySem.Calls PyProof.Rows L2

/-! ### what a printed derivation leans on -/
/-- a def's reading as its promise -/
def spOf (n : Nat) (N : List Str) (t : QS) : SpD := fun ds M Q E => ds.length = n ∧ t (endsD Q E) (startD N ds) M
/-- a def of the module that keeps a promise -/
structure OkFn (P : Program) (w : World) (K : PySem.W.Frag) (mg : Str → Option Value) (base : Heap) (T k : Nat) (x : Str) (ps : List Str) (sp : SpD) : Prop where
  ex : ∃ f fd, mg x = some (.ref f) ∧ FnD P w K mg base T k f fd ps sp ∧ ((∀ us : List Value, us.length = ps.length → bindArgs fd ⟨us, []⟩ = pure (ps.zip us)) ∧ ∃ o, K.lookup f = some o ∧ o.data = .func fd) ∧ PySem.W.keepIn K (.ref f) = true
theorem OkFn.mono {P : Program} {w : World} {K : PySem.W.Frag} {mg : Str → Option Value} {base : Heap} {T j k : Nat} {x : Str} {ps : List Str} {sp : SpD} (F : OkFn P w K mg base T j x ps sp) (h : j ≤ k) : OkFn P w K mg base T k x ps sp :=
  ⟨let ⟨f, fd, h1, h2, h3, h4⟩ := F.ex; ⟨f, fd, h1, h2.mono h, h3, h4⟩⟩
theorem OkFn.imp {P : Program} {w : World} {K : PySem.W.Frag} {mg : Str → Option Value} {base : Heap} {T k : Nat} {x : Str} {ps : List Str} {sp sp' : SpD} (F : OkFn P w K mg base T k x ps sp) (h : ∀ ds M Q E, sp' ds M Q E → sp ds M Q E) : OkFn P w K mg base T k x ps sp' :=
  ⟨let ⟨f, fd, h1, h2, h3, h4⟩ := F.ex; ⟨f, fd, h1, h2.imp h, h3, h4⟩⟩
/-- where a def stands -/
structure DefAt (K : PySem.W.Frag) (mg : Str → Option Value) (x : Str) (st : Stmt) (ps : List Str) : Prop where
  ex : ∃ f fd, mg x = some (.ref f) ∧ Fun K x x st f fd ∧ (∀ us : List Value, us.length = ps.length → bindArgs fd ⟨us, []⟩ = pure (ps.zip us)) ∧ ∃ o, K.lookup f = some o ∧ o.data = .func fd
theorem okfn_of {P : Program} {w : World} {K : PySem.W.Frag} {mg : Str → Option Value} {base : Heap} {T k : Nat} {x : Str} {st : Stmt} {N ps : List Str} {t : QS} (d : DefAt K mg x st ps) (S : FnScope N ps (defScope st)) {n : Nat} (hn : ps.length = n)
    (body : ∀ (f : Addr) (cdv : Value) (A : Around) (outer : List Env) (s : Shared) (H : Hp) (E : XK), Room k (A.deeper (envOfC x (defScope st) s.heap.objs.size f cdv)) → Takes (cxD P w K mg base N x st f cdv A outer s H E) (WD E) → QPSs (cxD P w K mg base N x st f cdv A outer s H E) T (WD E) (defBody st) t) :
    OkFn P w K mg base T (k + 1) x ps (spOf n N t) := by
  obtain ⟨f, fd, h1, h2, h3⟩ := d.ex
  exact ⟨f, fd, h1, fnd_of h2 S (fun ds M Q E h => by rw [hn]; exact h.1) (fun cdv A outer s H E => body f cdv A outer s H E) (fun ds M Q E h => h.2), h3, h2.kp⟩
/-- a def that calls itself: by its own promise at every lesser level -/
theorem okfn_sp {P : Program} {w : World} {K : PySem.W.Frag} {mg : Str → Option Value} {base : Heap} {T k : Nat} {x : Str} {st : Stmt} {N ps : List Str} {t : QS} {sp : SpD} (d : DefAt K mg x st ps) (S : FnScope N ps (defScope st)) (len : ∀ ds M Q E, sp ds M Q E → ds.length = ps.length)
    (body : ∀ (f : Addr) (cdv : Value) (A : Around) (outer : List Env) (s : Shared) (H : Hp) (E : XK), Room k (A.deeper (envOfC x (defScope st) s.heap.objs.size f cdv)) → Takes (cxD P w K mg base N x st f cdv A outer s H E) (WD E) → QPSs (cxD P w K mg base N x st f cdv A outer s H E) T (WD E) (defBody st) t)
    (hsp : ∀ ds M Q E, sp ds M Q E → t (endsD Q E) (startD N ds) M) : OkFn P w K mg base T (k + 1) x ps sp := by
  obtain ⟨f, fd, h1, h2, h3⟩ := d.ex
  exact ⟨f, fd, h1, fnd_of h2 S len (fun cdv A outer s H E => body f cdv A outer s H E) hsp, h3, h2.kp⟩
section
variable {X : Cx} {T : Nat} {W : WX} {pos : Pos} {k : Nat} {sp : SpD} {x : Str} {ps : List Str} {p : Pos} {e : Expr} {es : List Expr} {t : QA}
theorem q_callF (F : OkFn X.prog X.w X.K X.mg X.base T k x ps sp) (hr : Room k X.A) (tk : Takes X W) (ha : QPA X T W (e :: es) t) (hg : Gl X x := by rfl) (hdb : (x == ("__debug__" : Str)) = false := by decide)
    (he : starEach (e :: es) X.env = (false, eval e X.env) :: starEach es X.env := by rfl) (hpl : (backTo pos (starEach es X.env)).any (·.1) = false := by rfl) : QPE X T W (.Call (.Name x p) (e :: es) [] pos) (qCall sp t) := by
  obtain ⟨f, fd, h1, h2, h3, h4⟩ := F.ex
  exact q_call h2 hr hg h1 h4 (.all h3.1) tk ha hdb he hpl
theorem q_callF0 (F : OkFn X.prog X.w X.K X.mg X.base T k x ps sp) (hr : Room k X.A) (tk : Takes X W) (hg : Gl X x := by rfl) (hdb : (x == ("__debug__" : Str)) = false := by decide) : QPE X T W (.Call (.Name x p) [] [] pos) (qCall0 sp) := by
  obtain ⟨f, fd, h1, h2, h3, h4⟩ := F.ex
  exact q_call0 h2 hr hg h1 h4 (.all h3.1) tk hdb
/-- a text of the module -/
theorem q_gstr {z : Str} {tk : Tok} (hm : X.mg x = some (.str z tk)) (hg : Gl X x := by rfl) (hd : (x == ("__debug__" : Str)) = false := by decide) : QPE X T W (.Name x pos) (qC (.str z.cps.toList)) :=
  q_glob (v := .str z) hg hm ⟨tk, rfl⟩ (fun _ => by rw [Rep]) hd
theorem q_gint {z : Int} {tk : Tok} (hm : X.mg x = some (.int z tk)) (hg : Gl X x := by rfl) (hd : (x == ("__debug__" : Str)) = false := by decide) : QPE X T W (.Name x pos) (qC (.int z)) :=
  q_glob (v := .int z) hg hm ⟨tk, rfl⟩ (fun _ => by rw [Rep]) hd
/-- a tuple of the module, of texts and ints -/
def constD : Value → Option (V × D)
  | .str z _ => some (.str z, .str z.cps.toList)
  | .int i _ => some (.int i, .int i)
  | .none => some (.non, .non)
  | .bool b => some (.bl b, .bl b)
  | _ => none
def constDs : List Value → Option (List V × List D)
  | [] => some ([], [])
  | v :: r => match constD v, constDs r with
    | some (a, b), some (as, bs) => some (a :: as, b :: bs)
    | _, _ => none
theorem constD_ok {K : PySem.W.Frag} {H : Hp} : ∀ {u : Value} {v : V} {d : D}, constD u = some (v, d) → RelV v u ∧ Rep K H v d
  | .str z t, v, d, h => by cases h; exact ⟨⟨t, rfl⟩, by rw [Rep]⟩
  | .int z t, v, d, h => by cases h; exact ⟨⟨t, rfl⟩, by rw [Rep]⟩
  | .none, v, d, h => by cases h; exact ⟨rfl, by rw [Rep]⟩
  | .bool b, v, d, h => by cases h; exact ⟨rfl, by rw [Rep]⟩
theorem constDs_ok {K : PySem.W.Frag} {H : Hp} : ∀ {us : List Value} {vs : List V} {ds : List D}, constDs us = some (vs, ds) → Vals vs us ∧ Reps K H vs ds
  | [], vs, ds, h => by cases h; exact ⟨.nil, reps_nil⟩
  | u :: us, vs, ds, h => by
    unfold constDs at h
    split at h
    · rename_i a b as bs e1 e2
      cases h
      obtain ⟨r1, r2⟩ := constD_ok (K := K) (H := H) e1
      obtain ⟨r3, r4⟩ := constDs_ok (K := K) (H := H) e2
      exact ⟨.cons r1 r3, reps_cons r2 r4⟩
    · cases h
/-- a name of the module that is a tuple of constants -/
structure TupAt (K : PySem.W.Frag) (mg : Str → Option Value) (x : Str) (ds : List D) : Prop where
  ex : ∃ (a : Addr) (o : Obj) (its : Array Value) (n : Nat) (vs : List V), mg x = some (.ref a) ∧ K.lookup a = some o ∧ o.cls = .type "tuple" ∧ o.dict = none ∧ o.data = .seq its n ∧ its.size ≤ sizeLine ∧ constDs its.toList = some (vs, ds)
theorem q_gtup {ds : List D} (h : TupAt X.K X.mg x ds) (hg : Gl X x := by rfl) (hd : (x == ("__debug__" : Str)) = false := by decide) : QPE X T W (.Name x pos) (qC (.tup ds)) := by
  obtain ⟨a, o, its, n, vs, hm, hk, hc, hdi, hdat, hz, hds⟩ := h.ex
  refine q_glob (v := .ref a) hg hm rfl (fun H => ?_) hd
  rw [Rep]
  obtain ⟨r1, r2⟩ := constDs_ok (K := X.K) (H := H) hds
  exact ⟨a, vs, rfl, .inr ⟨o, its, n, hk, hc, hdat, hz, r1⟩, r2⟩
/-- a class of the program that is raised: without an __init__ of its own -/
structure Cls0 (K : PySem.W.Frag) (mg : Str → Option Value) (x : Str) (C : Addr) : Prop where
  g : mg x = some (.ref C)
  exc : ∃ B newId initId bmB, ExcBaseFacts B newId initId bmB ∧ PySem.W.excIn K C bmB newId = true
  kC : PySem.W.keepIn K (.ref C) = true
  r1 : PySem.W.subIn K (.ref C) (.type "BaseException") = some true
  r2 : PySem.W.typeIn K (.ref C) = some (.type "type")
theorem m_cls0 {C : Addr} (c : Cls0 X.K X.mg x C) (hg : Gl X x := by rfl) (hdb : (x == ("__debug__" : Str)) = false := by decide) : QPMk X T W (.Call (.Name x p) [] [] pos) (qMk0 C) := by
  obtain ⟨B, newId, initId, bmB, F, q⟩ := c.exc
  exact mk_own0 F q c.kC c.r1 c.r2 hg c.g hdb
/-- with one whose __init__ hands on its argument -/
structure Cls1 (P : Program) (K : PySem.W.Frag) (mg : Str → Option Value) (x : Str) (C : Addr) (qual par fld : Str) (params : Arguments) (scope : Scope) (p0 p1 p2 p3 p4 p5 p6 p7 p8 p9 : Pos) : Prop where
  g : mg x = some (.ref C)
  sx : ∃ fI, SupX P K mg C fI qual params (supB par fld p0 p1 p2 p3 p4 p5 p6 p7 p8 p9) scope
  fld : PySem.W.findIn K (.ref C) fld = some none
end
theorem okfn_none {P : Program} {w : World} {K : PySem.W.Frag} {mg : Str → Option Value} {base : Heap} {T k : Nat} {x : Str} {st : Stmt} {ps : List Str} (d : DefAt K mg x st ps) : OkFn P w K mg base T k x ps (fun _ _ _ _ => False) := by
  obtain ⟨f, fd, h1, h2, h3⟩ := d.ex
  exact ⟨f, fd, h1, ⟨fun vs H Q E ⟨_, _, _, _, _, _, z, _⟩ => z.elim, fun A outer s H args us vs Q E hr kT he hb hv ⟨_, _, _, _, _, _, z, _⟩ => z.elim⟩, h3, h2.kp⟩
end DL
end

section
set_option Elab.async false
set_option linter.all false
set_option maxRecDepth 100000
set_option maxHeartbeats 2000000
namespace DL
open PySem PySem.Spec PySem.Calls PyProof.Rows L2

/-! ### the end: from the promise of the law's def to the row -/
theorem of_py_ints : ∀ (ns : List Int), PySem.W.ofPys (ns.map PyData.int) = ns.map PySem.W.WData.int
  | [] => rfl
  | n :: ns => by
    show _ :: _ = _ :: _
    rw [of_py_ints ns]
    rfl
/-- the call, where so many tokens are out -/
theorem call_lawT {P : Program} {w : World} {K : PySem.W.Frag} {mg mb : Str → Option Value} {T k : Nat} {fa a : Addr} {fd : FuncData} {x : Str} {sp : SpD} {s₁ : Shared} {vs : List Value} {ns : List Int} (kT : T ≤ s₁.toks)
    (KX : K.In s₁.heap) (hns : s₁.heap.Ns mainGlobals mg) (hb : s₁.heap.Ns builtinsNs mb) (hbb : ∀ x : Str, x ≠ "__name__" → mb x = bootBuiltins x) (hlim : s₁.heap.NoLimit) (hg : s₁.gens = #[])
    (ha : s₁.heap.get? a = some { cls := .type "list", data := .seq vs.toArray }) (hi : IntsAre vs ns) (hl : ns.length ≤ sizeLine) (hr : Room k callerA)
    (F : ∀ base : Heap, K.In base → base.Ns mainGlobals mg → FnD P w K mg base T k fa fd [x] sp) (hbind : ∀ (s : Shared) (u : Value), BindsTo s fd ⟨[u], []⟩ [(x, u)])
    (hsp : ∀ M : Mp, (∀ p, M p = none) → sp [.fl (ns.map D.int)] M (fun d _ => d = .bl true) fun _ _ _ => False) :
    codeAny (model P w) callerA (.call (.ref fa) ⟨[.ref a], []⟩) (fun r s' => r = .ok (.ret (.bool true)) ∧ OldK s₁.heap s'.heap ∧ s'.os = s₁.os ∧ AllBare s'.gens) s₁ := by
  have rv := vals_ints hi
  have core : ∀ H : Hp, (∀ b, H b ≠ none → b = a ∧ K.lookup a = none ∧ ∃ o xs, H b = some (.frz o (.lst xs))) → Rep K H (.ref a) (.fl (ns.map D.int)) → HOk P w H s₁.heap →
      codeAny (model P w) callerA (.call (.ref fa) ⟨[.ref a], []⟩) (fun r s' => r = .ok (.ret (.bool true)) ∧ OldK s₁.heap s'.heap ∧ s'.os = s₁.os ∧ AllBare s'.gens) s₁ := by
    intro H hA hR hok
    have other : ∀ {b : Addr}, b ≠ a → H b = none := fun {b} hb => Classical.byContradiction fun z => hb (hA b z).1
    have keepNs : ∀ {b : Addr} {m : Str → Option Value}, s₁.heap.Ns b m → (hidT s₁.heap H).Ns b m := fun {b m} ⟨o, es, ep, e, d, r⟩ => by
      refine ⟨o, es, ep, hidT_get e (other fun z => ?_), d, r⟩
      rw [z, ha] at e
      cases e
      cases (show Data.seq vs.toArray _ = Data.dict es ep from d)
    have hKb : K.In (hidT s₁.heap H) := fun b o e => hidT_get (KX b o e) (Classical.byContradiction fun z => by
      obtain ⟨rfl, h2, _⟩ := hA b z
      rw [h2] at e
      cases e)
    have hM : Mod K mg (hidT s₁.heap H) := ⟨hKb, keepNs hns, ⟨mb, keepNs hb, hbb⟩, let ⟨mc, h1, h2⟩ := hlim; ⟨mc, keepNs h1, h2⟩⟩
    have e0 : Env0 P w K mg (hidT s₁.heap H) callerA [] s₁ H := ⟨rfl, hM, fun b o e => of_hidT e, Nat.le_of_eq (hidT_size _ _), trivial, fun b hb => absurd (show b ∈ ([] : List Addr) from hb) (by simp), hok, .of_eq hg⟩
    have low : lowSp K sp [.ref a] H (fun v _ => v = .bl true) (fun _ _ _ => False) := ⟨[.fl (ns.map D.int)], fun _ => none, _, _, reps_cons hR reps_nil, (fun _ _ z => nomatch z), hsp _ (fun _ => rfl), fun v d H' M' _ _ r q => by
      have q : d = D.bl true := q
      subst q
      rw [Rep] at r
      exact r, fun _ _ _ _ _ _ _ _ z => z⟩
    refine codeAny_mono ((F _ hKb (keepNs hns)).run callerA [] s₁ H ⟨[.ref a], []⟩ [.ref a] [.ref a] _ _ hr kT e0 (hbind s₁ (.ref a)) (.cons rfl .nil) low) fun r s' h => ?_
    cases r with
    | error e =>
      obtain ⟨_, _, _, _, _, _, _, _, _, _, _, _, z⟩ := h
      exact z.elim
    | ok fl =>
      cases fl with
      | next => exact False.elim h
      | brk => exact False.elim h
      | cont => exact False.elim h
      | ret u =>
        obtain ⟨v, H', os, bare, un, hok', r', q⟩ := h
        cases (show v = .bl true from q)
        cases (show u = Value.bool true from r')
        refine ⟨rfl, OldK.of_keep fun b o e => ?_, os, bare⟩
        by_cases hb : H b = none
        · exact un.keep b o e hb (by simp [frs]) (by simp)
        · obtain ⟨_, _, ob, xs, z⟩ := hA b hb
          obtain ⟨e1, _⟩ := hok b _ z
          obtain ⟨e2, _⟩ := hok' b _ (un.frzs b ob _ z)
          rw [e] at e1; cases e1
          exact e2
  have lenV := hi.length
  cases hk : K.lookup a with
  | some o =>
    have e := KX a o hk
    rw [ha] at e
    cases e
    refine core (fun _ => none) (fun b z => absurd rfl z) ?_ (fun b u z => nomatch z)
    rw [Rep]
    exact ⟨a, ns.map V.int, rfl, .inr ⟨_, vs.toArray, _, hk, rfl, rfl, rfl, by rw [List.size_toArray, lenV]; exact hl, by simpa using rv⟩, Reps.of_ints⟩
  | none =>
    refine core (fun b => if b = a then some (.frz { cls := .type "list", data := .seq vs.toArray } (.lst (ns.map V.int))) else none) (fun b z => ?_) ?_ (fun b u z => ?_)
    · by_cases hb : b = a
      · exact ⟨hb, hk, _, _, if_pos hb⟩
      · exact absurd (if_neg hb) z
    · rw [Rep]
      exact ⟨a, ns.map V.int, rfl, .inl ⟨_, if_pos rfl⟩, Reps.of_ints⟩
    · by_cases hb : b = a
      · cases (if_pos hb).symm.trans z
        subst hb
        exact ⟨ha, by rw [List.length_map]; exact hl, vs, _, rv, ha⟩
      · cases (if_neg hb).symm.trans z
/-- THE END, behind z_head -/
theorem dl_end {l : PySem.W.OpenLaw} {n k nn t : Nat} {q : Program} {loose : List Str} {XP : (Str → Option Value) → Heap → Prop} {d : DefRec} {K : Params → PySem.W.Frag} {as : List Addr} {sp : SpD} {x : Str}
    (hn : l.most = some n) (hn2 : n ≤ sizeLine) (hdf : d.params.defaults = []) (hr : Room k callerA) (hK : ∀ P, as = (K P).map (·.1))
    (F : ∀ (w : World) (mg : Str → Option Value) (fa : Addr) (h : Heap), (K w.params).In h → h.Ns mainGlobals mg → mg d.name = some (.ref fa) →
      ∃ fd : FuncData, (∀ (s : Shared) (u : Value), BindsTo s fd ⟨[u], []⟩ [(x, u)]) ∧ ∀ base : Heap, (K w.params).In base → base.Ns mainGlobals mg → FnD l.prog w (K w.params) mg base t k fa fd [x] sp)
    (hsp : ∀ (ns : List Int) (M : Mp), ns.length ≤ n → (∀ p, M p = none) → sp [.fl (ns.map D.int)] M (fun d _ => d = .bl true) fun _ _ _ => False) :
    PySem.W.WalkX q loose XP (PySem.W.X.obsZ as) (PySem.W.X.valZ K nn t) l.row.toRowW d [] (fun f vs => PySem.call f vs) := by
  intro w s₀ s₁ mg mb G Y fa o pm cd doc dV kV ho hd hcd hD hmg hg args vals as' L hpre hlay hrd hwl hlo
  obtain ⟨ZA, ZI, ZN, ZT⟩ := PySem.W.X.z_facts hK Y
  have KX : (K w.params).In s₁.heap := PySem.W.InK.keeps w _ _ ZI L.keeps
  obtain rfl : dV = .none := PySem.W.Dflts.none hD hdf
  obtain rfl : kV = .none := PySem.W.Dflts.noKw hD
  obtain ⟨a, vs, ns, rfl, rfl, hobj, hints, hlen⟩ := Att.script_of hn hpre hwl
  have htk : t ≤ s₁.toks := PySem.W.X.script_toks (ns := ns) (by
    have e : PySem.W.ofPy (PyData.list (ns.map PyData.int)) = PySem.W.WData.list (ns.map PySem.W.WData.int) := by
      rw [← of_py_ints]
      rfl
    rw [e]
    exact L) ZT
  obtain ⟨fd, hb, hF⟩ := F w mg fa _ KX G.T.g hmg
  refine PySem.W.enter_call (codeAny_mono (call_lawT htk KX G.T.g G.T.b G.T.builtins G.T.nolimit hg hobj hints (Nat.le_trans hlen hn2) hr hF hb (fun M hM => hsp ns M hlen hM)) fun r s' hq => ?_)
  obtain ⟨rfl, h2, h3, h4⟩ := hq
  exact ⟨.inl ⟨.bool true, .bool true, [], rfl, fun _ => rfl, .bool true, Att.post_true l _, fun _ => ⟨List.Pairwise.nil, fun _ hm => (nomatch hm)⟩⟩, h2, h3, h4⟩

/-! ### facts of the head -/
section
variable {K : PySem.W.Frag} {h : Heap} {mg : Str → Option Value} {x : Str}
theorem defAt_mk {st : Stmt} {ps : List Str} {f : Addr} {oc : Value} {od an : Option Addr} {osl : Array (Option Value)} {kV doc pm cdv ct : Value} (X : K.In h) (G : h.Ns mainGlobals mg) (a : PySem.W.nsIn K mainGlobals x = some (some (.ref f)))
    (l : K.lookup f = some ⟨oc, od, .func (PySem.W.fnOf x x (defArgs st) (defBody st) (defScope st) .none kV doc pm an cdv ct), osl⟩) (c : PySem.W.codeIn K cdv x = true) (k : PySem.W.keepIn K (.ref f) = true)
    (hb : ∀ (kV doc pm : Value) (an : Option Addr) (cdv ct : Value) (us : List Value), us.length = ps.length → bindArgs (PySem.W.fnOf x x (defArgs st) (defBody st) (defScope st) .none kV doc pm an cdv ct) ⟨us, []⟩ = pure (ps.zip us)) : DefAt K mg x st ps :=
  ⟨f, _, PySem.W.mg_of X G a, fun_mk l c k, hb kV doc pm an cdv ct, _, l, rfl⟩
theorem cls0_mk {C : Addr} {newId : String} {bmB : List Value} {B initId : String} (X : K.In h) (G : h.Ns mainGlobals mg) (F : ExcBaseFacts B newId initId bmB) (a : PySem.W.nsIn K mainGlobals x = some (some (.ref C))) (q : PySem.W.excIn K C bmB newId = true) (kC : PySem.W.keepIn K (.ref C) = true)
    (r1 : PySem.W.subIn K (.ref C) (.type "BaseException") = some true) (r2 : PySem.W.typeIn K (.ref C) = some (.type "type")) : Cls0 K mg x C := ⟨PySem.W.mg_of X G a, ⟨_, _, _, _, F, q⟩, kC, r1, r2⟩
theorem tupAt_mk {ds : List D} {a : Addr} {its : List Value} {n : Nat} {vs : List V} {sl : Array (Option Value)} (X : K.In h) (G : h.Ns mainGlobals mg) (e : PySem.W.nsIn K mainGlobals x = some (some (.ref a))) (l : K.lookup a = some ⟨.type "tuple", none, .seq its.toArray n, sl⟩) (hz : its.length ≤ sizeLine)
    (hd : constDs its = some (vs, ds)) : TupAt K mg x ds := ⟨a, _, its.toArray, n, vs, PySem.W.mg_of X G e, l, rfl, rfl, rfl, by simpa using hz, by simpa using hd⟩
theorem supX_mk {P : Program} {C fI : Addr} {qual : Str} {params : Arguments} {body : List Stmt} {scope : Scope} {nm q : Str} {N : Addr} {bs bm sub : List Value} {sn : List Str} {ab : Bool} {col : Option Bool} {dd : Option Addr} {k0 k1 k2 k3 k5 : Option Value}
    {oc : Value} {od an : Option Addr} {osl : Array (Option Value)} {name : Str} {kV doc pm ct : Value} {cda cc : Addr} {ccl : Value} {cdd : Option Addr} {vs : Array Value} {ccs : Array (Option Value)} {file : Str} {tf : Tok} {cl : Value} {cld : Option Addr} {csl : Array (Option Value)} (X : K.In h) (G : h.Ns mainGlobals mg)
    (l : K.lookup C = some (excClassObj nm q C N bs bm true sn sub ab col dd k0 k1 k2 k3 k5 "ValueError.__new__")) (v : PySem.HandSPX.refsVE bm = true) (sa : PySem.W.findIn K (.ref C) "__setattr__" = some (some (.builtin "object.__setattr__"))) (exC : PySem.W.subIn K (.ref C) (.type "BaseException") = some true)
    (tyC : PySem.W.typeIn K (.ref C) = some (.type "type")) (kC : PySem.W.keepIn K (.ref C) = true) (init : PySem.W.findIn K (.ref C) "__init__" = some (some (.ref fI))) (ty : PySem.W.typeIn K (.ref fI) = some (.type "function"))
    (lf : K.lookup fI = some ⟨oc, od, .func (PySem.W.ksFn name qual params body scope .none kV doc pm an (.ref cda) ct cc), osl⟩) (cd : PySem.W.codeIn K (.ref cda) qual = true) (lc : K.lookup cda = some ⟨ccl, cdd, .fields vs, ccs⟩) (vf : vs[2]? = some (.str file tf)) (hf : ((P.main.file : Str) == file) = true)
    (lcc : K.lookup cc = some ⟨cl, cld, .cell (some (.ref C)), csl⟩) (sup : PySem.W.ks_superIn K C C "__init__" = some (some (.builtin "ValueError.__init__"))) (sub : PySem.W.mroIn K C (.ref C) = some true) (subV : PySem.W.subIn K (.ref C) (.type "ValueError") = some true)
    (opq : PySem.W.nsIn K cStatics "thirdparty.any" = some none) (glb : PySem.W.nsIn K mainGlobals "super" = some none) (top : (P.main.scope.names.lookup ("super" : Str)).isSome = false) : ∃ fI, SupX P K mg C fI qual params body scope :=
  ⟨fI, ⟨⟨⟨nm, q, N, bs, bm, sn, _, ab, col, dd, k0, k1, k2, k3, k5, l, v⟩, sa, exC, tyC, kC⟩, init, ty, ⟨oc, od, osl, name, kV, doc, pm, an, cda, ct, cc, lf, cd, ⟨ccl, cdd, vs, ccs, file, tf, lc, vf, hf⟩, ⟨cl, cld, csl, lcc⟩⟩, sup, sub, subV, opq, PySem.W.mg_none_of X G glb, top⟩⟩
end
theorem dl_law {P : Program} {w : World} {K : PySem.W.Frag} {mg : Str → Option Value} {T k : Nat} {x p : Str} {st : Stmt} {fa : Addr} {sp : SpD} (hmg : mg x = some (.ref fa)) (d : DefAt K mg x st [p]) (F : ∀ base : Heap, OkFn P w K mg base T k x [p] sp) :
    ∃ fd : FuncData, (∀ (s : Shared) (u : Value), BindsTo s fd ⟨[u], []⟩ [(p, u)]) ∧ ∀ base : Heap, K.In base → base.Ns mainGlobals mg → FnD P w K mg base T k fa fd [p] sp := by
  obtain ⟨f0, fd, h1, h2, h3, o, h4, h5⟩ := d.ex
  cases hmg.symm.trans h1
  refine ⟨fd, fun s u => .of_eq (h3 [u] rfl), fun base _ _ => ?_⟩
  obtain ⟨f1, fd1, k1, k2, ⟨_, o1, k4, k5⟩, _⟩ := (F base).ex
  cases hmg.symm.trans k1
  cases h4.symm.trans k4
  cases h5.symm.trans k5
  exact k2
end DL
end

section
set_option Elab.async false
set_option linter.all false
set_option maxRecDepth 100000
set_option maxHeartbeats 2000000
namespace DL
open PySem L2

/-! ### plain rules for readings -/
/-- all objects stay as they are -/
def MExt (M M' : Mp) : Prop := ∀ a o, M a = some o → M' a = some o
theorem MExt.refl (M : Mp) : MExt M M := fun _ _ h => h
theorem MExt.trans {M M1 M2 : Mp} (a : MExt M M1) (b : MExt M1 M2) : MExt M M2 := fun c o h => b c o (a c o h)
theorem MExt.new {M : Mp} {p : Addr} {o : MO} (h : M p = none) : MExt M (updM M p o) := fun a u e => by
  have n : a ≠ p := fun z => by rw [z, h] at e; cases e
  rw [updM_ne n]
  exact e
/-- all but one object stay -/
def MOff (p : Addr) (M M' : Mp) : Prop := ∀ a o, a ≠ p → M a = some o → M' a = some o
theorem MOff.refl (p : Addr) (M : Mp) : MOff p M M := fun _ _ _ h => h
theorem MOff.trans {p : Addr} {M M1 M2 : Mp} (a : MOff p M M1) (b : MOff p M1 M2) : MOff p M M2 := fun c o n h => b c o n (a c o n h)
theorem MExt.off {p : Addr} {M M' : Mp} (a : MExt M M') : MOff p M M' := fun c o _ h => a c o h
theorem MOff.upd {p : Addr} {M : Mp} {o : MO} : MOff p M (updM M p o) := fun a u n e => by rw [updM_ne n]; exact e
theorem MOff.ext {p : Addr} {M M' : Mp} (a : MOff p M M') (h : M p = none) : MExt M M' := fun c o e => a c o (fun z => by rw [z, h] at e; cases e) e
/-- [f(x) for x in items] -/
theorem lcL_map {gd : Option Addr} {all : List D} {i : Nat} {te : QE} {p : Addr} {ρ : PSt} {M0 : Mp} {Q : QK} (f : D → D) (hp : M0 p = none) (hg : okG gd all M0) (hz : all.length ≤ PySem.sizeLine)
    (he : ∀ d ∈ all, ∀ (M : Mp) (K : QK), MExt M0 M → (∀ M', MExt M M' → K (f d) M') → te (st ρ i (some d)) M K noX)
    (hq : ∀ M', MExt M0 M' → M' p = some (.lst (all.map f)) → Q (.ref p) M') : qLcL gd all (qgName i) qYes te p ρ all [] (updM M0 p (.lst [])) Q := by
  have gk : ∀ {M : Mp}, MExt M0 M → okG gd all M := fun {M} e => by
    cases gd with
    | none => trivial
    | some q => exact e q _ hg
  have key : ∀ (rest : List D) (done : List D) (M : Mp), all = done ++ rest → MExt M0 M → M p = some (.lst (done.map f)) → qLcL gd all (qgName i) qYes te p ρ rest (done.map f) M Q := by
    intro rest
    induction rest with
    | nil =>
      intro done M e k h
      rw [List.append_nil] at e
      refine ⟨gk k, hq M k ?_⟩
      rw [e]
      exact h
    | cons d r ih =>
      intro done M e k h
      refine ⟨gk k, ?_⟩
      refine he d (by rw [e]; simp) M _ k fun M' k' => ?_
      have k2 := k.trans k'
      refine ⟨k' _ _ h, ?_, ?_⟩
      · rw [List.length_map]
        rw [e, List.length_append, List.length_cons] at hz
        omega
      · have e2 : done.map f ++ [f d] = (done ++ [d]).map f := by simp
        rw [e2]
        refine ih (done ++ [d]) _ (by rw [e]; simp) (fun a o q => ?_) updM_same
        have n : a ≠ p := fun z => by rw [z, hp] at q; cases q
        rw [updM_ne n]
        exact k2 a o q
  exact key all [] _ (by simp) (MExt.new hp) updM_same
/-- a for, by an invariant by the turn -/
theorem forL_inv {gd : Option Addr} {all : List D} {g : QG} {tb : QS} {B : QB} (I : Nat → PSt → Mp → Prop)
    (step : ∀ i d ρ M (N : PSt → Mp → Prop), all[i]? = some d → I i ρ M → (∀ ρ' M', I (i + 1) ρ' M' → N ρ' M') → okG gd all M ∧ g d ρ M fun ρ' M' => tb { B with nx := N, ct := N, bk := B.nx } ρ' M')
    (fin : ∀ ρ M, I all.length ρ M → okG gd all M ∧ B.nx ρ M) : ∀ {ρ : PSt} {M : Mp}, I 0 ρ M → qForL gd all g tb all B ρ M := by
  have key : ∀ (rest : List D) (i : Nat) (ρ : PSt) (M : Mp), all.drop i = rest → i ≤ all.length → I i ρ M → qForL gd all g tb rest B ρ M := by
    intro rest
    induction rest with
    | nil =>
      intro i ρ M e hi h
      have : all.length ≤ i := by simpa using e
      have : i = all.length := by omega
      subst this
      exact fin ρ M h
    | cons d r ih =>
      intro i ρ M e hi h
      have hlt : i < all.length := by
        rcases Nat.lt_or_ge i all.length with z | z
        · exact z
        · rw [List.drop_of_length_le z] at e; cases e
      rw [List.drop_eq_getElem_cons hlt] at e
      obtain ⟨e1, e2⟩ := List.cons.inj e
      exact step i d ρ M _ (by rw [List.getElem?_eq_getElem hlt, e1]) h fun ρ' M' h' => ih (i + 1) ρ' M' e2 hlt h'
  intro ρ M h
  exact key all 0 ρ M (by simp) (Nat.zero_le _) h
/-- a while, by an invariant and a measure -/
theorem while_inv {c : QT} {tb : QS} {B : QB} {ρ : PSt} {M : Mp} (I : Nat → PSt → Mp → Prop) (m : Nat) (h : I m ρ M)
    (step : ∀ m ρ M, I m ρ M → c ρ M (fun b M1 => match b with
      | true => ∃ N : PSt → Mp → Prop, (∀ ρ' M', N ρ' M' → ∃ m', m' < m ∧ I m' ρ' M') ∧ tb { B with nx := N, ct := N, bk := B.nx } ρ M1
      | false => B.nx ρ M1) (B.ex ρ)) : qWhile c tb B ρ M := ⟨I, ⟨m, h⟩, step⟩
/-- what a turn of a while is to reach -/
def Less (I : Nat → PSt → Mp → Prop) (m : Nat) : PSt → Mp → Prop := fun ρ M => ∃ m', m' < m ∧ I m' ρ M
/-! ### texts -/
theorem atN {α : Type} (x : List α) (i : Nat) : atI x (i : Int) = x[i]? := by
  unfold atI ixN
  rw [if_pos (Int.natCast_nonneg i)]
  by_cases h : i < x.length
  · rw [if_pos (by exact_mod_cast h)]
    simp
  · rw [if_neg (by exact_mod_cast h)]
    simp
    omega
theorem cut_nn {α : Type} (x : List α) (i j : Nat) (hi : i ≤ x.length) (hj : j ≤ x.length) : cut x (some (i : Int)) (some (j : Int)) = (x.drop i).take (j - i) := by
  unfold cut
  rw [HT.sIx_nat, HT.sIx_nat, Nat.min_eq_left hi, Nat.min_eq_left hj]
theorem cut_0n {α : Type} (x : List α) (j : Nat) : cut x none (some (j : Int)) = x.take j := by
  unfold cut
  rw [HT.sIx_nat]
  show (x.drop 0).take (min j x.length - 0) = _
  rw [List.drop_zero, Nat.sub_zero]
  by_cases h : j ≤ x.length
  · rw [Nat.min_eq_left h]
  · rw [Nat.min_eq_right (by omega), List.take_of_length_le (Nat.le_refl _), List.take_of_length_le (by omega)]
theorem cut_n0 {α : Type} (x : List α) (i : Nat) : cut x (some (i : Int)) none = x.drop i := by
  unfold cut
  rw [HT.sIx_nat]
  show (x.drop (min i x.length)).take (x.length - _) = _
  by_cases h : i ≤ x.length
  · rw [Nat.min_eq_left h, List.take_of_length_le (by rw [List.length_drop]; exact Nat.le_refl _)]
  · rw [Nat.min_eq_right (by omega), List.drop_of_length_le (Nat.le_refl _), List.drop_of_length_le (by omega)]
    simp
/-- how long texts and lists are taken to be -/
abbrev LTX : Nat := 1000000
theorem lt_size {n : Nat} (h : n ≤ LTX) : n ≤ PySem.sizeLine := Nat.le_trans h (by decide)
theorem sz (n : Nat) (h : n ≤ 1000) : n ≤ PySem.sizeLine := lt_size (Nat.le_trans h (by decide))
end DL
end

section
set_option Elab.async false
set_option linter.all false
set_option maxRecDepth 100000
set_option maxHeartbeats 0
namespace K01
open PySem PySem.Spec PySem.Calls PyProof.Rows L2 DL
def tx (s : String) : List Nat := (Str.ofString s).cps.toList
abbrev top (i : Nat) : Stmt := PySem.Challenge.pw_keptreturns_k01_words_of_a_text.main.body.getD i (.Pass ⟨0, 0, 0, 0⟩)
abbrev s_is_sign : Stmt := top 13
abbrev s_is_like_integer : Stmt := top 14
abbrev s_is_symbol : Stmt := top 15
abbrev s_is_integer_word : Stmt := top 16
abbrev s_stretch_end : Stmt := top 17
abbrev s_line_end : Stmt := top 18
abbrev s_text_end : Stmt := top 19
abbrev s_stretch_word : Stmt := top 20
abbrev s_word_from : Stmt := top 21
abbrev s_words : Stmt := top 22
abbrev s__law_flow : Stmt := top 24
abbrev s__law_more : Stmt := top 25
abbrev s__law_draw : Stmt := top 26
abbrev s__law_same : Stmt := top 27
abbrev s__law_signs : Stmt := top 28
abbrev s__law_sign : Stmt := top 29
abbrev s__law_number : Stmt := top 30
abbrev s__law_stretch : Stmt := top 31
abbrev s__law_end : Stmt := top 32
abbrev s__law_quote : Stmt := top 33
abbrev s__law_cut : Stmt := top 34
abbrev s__law_inner : Stmt := top 35
abbrev s__law_symbol : Stmt := top 36
abbrev s__law_piece : Stmt := top 37
abbrev s__law_fault : Stmt := top 38
abbrev s__law_space : Stmt := top 39
abbrev s__law_pieces : Stmt := top 40
abbrev s__law_told : Stmt := top 41
abbrev s_law : Stmt := top 42
abbrev C_BadText : Addr := 46
abbrev C_NoText : Addr := 58
abbrev X_line : List Addr := [C_BadText]
def D_MARKS : List D := [.str (tx "("), .str (tx ")"), .str (tx "'")]
abbrev tbl__law_told_0 : List (Addr × Nat) := [(C_NoText, 0), (C_BadText, 1)]
abbrev TT : Nat := 549
def clsDef (i : Nat) : Stmt := match top i with
  | .ClassDef _ _ _ b _ _ _ _ _ _ _ => b.getD 0 (.Pass ⟨0, 0, 0, 0⟩)
  | s => s
/-- what the head has to tell -/
structure Gb (P : Program) (K : PySem.W.Frag) (mg : Str → Option Value) : Prop where
  f_is_sign : DefAt K mg "is_sign" s_is_sign ["sign"]
  f_is_like_integer : DefAt K mg "is_like_integer" s_is_like_integer ["word"]
  f_is_symbol : DefAt K mg "is_symbol" s_is_symbol ["thing"]
  f_is_integer_word : DefAt K mg "is_integer_word" s_is_integer_word ["word"]
  f_stretch_end : DefAt K mg "stretch_end" s_stretch_end ["text", "at"]
  f_line_end : DefAt K mg "line_end" s_line_end ["text", "at"]
  f_text_end : DefAt K mg "text_end" s_text_end ["text", "at"]
  f_stretch_word : DefAt K mg "stretch_word" s_stretch_word ["word", "line"]
  f_word_from : DefAt K mg "word_from" s_word_from ["text", "at", "line"]
  f_words : DefAt K mg "words" s_words ["text"]
  f__law_flow : DefAt K mg "_law_flow" s__law_flow ["script"]
  f__law_more : DefAt K mg "_law_more" s__law_more ["flow"]
  f__law_draw : DefAt K mg "_law_draw" s__law_draw ["flow", "many"]
  f__law_same : DefAt K mg "_law_same" s__law_same ["found", "due"]
  f__law_signs : DefAt K mg "_law_signs" s__law_signs []
  f__law_sign : DefAt K mg "_law_sign" s__law_sign ["flow"]
  f__law_number : DefAt K mg "_law_number" s__law_number ["word"]
  f__law_stretch : DefAt K mg "_law_stretch" s__law_stretch ["word", "line"]
  f__law_end : DefAt K mg "_law_end" s__law_end ["text", "at"]
  f__law_quote : DefAt K mg "_law_quote" s__law_quote ["text", "at"]
  f__law_cut : DefAt K mg "_law_cut" s__law_cut ["text"]
  f__law_inner : DefAt K mg "_law_inner" s__law_inner ["flow"]
  f__law_symbol : DefAt K mg "_law_symbol" s__law_symbol ["flow"]
  f__law_piece : DefAt K mg "_law_piece" s__law_piece ["flow"]
  f__law_fault : DefAt K mg "_law_fault" s__law_fault ["flow"]
  f__law_space : DefAt K mg "_law_space" s__law_space ["flow"]
  f__law_pieces : DefAt K mg "_law_pieces" s__law_pieces ["flow"]
  f__law_told : DefAt K mg "_law_told" s__law_told ["thing"]
  f_law : DefAt K mg "law" s_law ["script"]
  n_abs : mg "abs" = none
  n_all : mg "all" = none
  n_bool : mg "bool" = none
  n_int : mg "int" = none
  n_isinstance : mg "isinstance" = none
  n_len : mg "len" = none
  n_list : mg "list" = none
  n_range : mg "range" = none
  n_str : mg "str" = none
  n_tuple : mg "tuple" = none
  k_BadText : mg "BadText" = some (.ref C_BadText)
  e_BadText : ∃ fI, SupX P K mg C_BadText fI "BadText.__init__" (defArgs (clsDef 2)) (defBody (clsDef 2)) (defScope (clsDef 2))
  d_BadText : PySem.W.findIn K (.ref C_BadText) "line" = some none
  k_NoText : mg "NoText" = some (.ref C_NoText)
  e_NoText : Cls0 K mg "NoText" C_NoText
  x_line : (X_line.all fun C => xfB K C && decide (PySem.W.findIn K (.ref C) "line" = some none)) = true
  g_FIGURES : mg "FIGURES" = some (.str "0123456789" 252)
  g_LEAST : mg "LEAST" = some (.int (-576460752303423488) 267)
  g_MARKS : TupAt K mg "MARKS" D_MARKS
  g_MOST : mg "MOST" = some (.int 576460752303423487 273)
  g_MOST_FIGURES : mg "MOST_FIGURES" = some (.int 18 262)
  g_MOST_SYMBOL : mg "MOST_SYMBOL" = some (.int 20 260)
  g_QUOTE : mg "QUOTE" = some (.str "\"" 275)
  g_SIGNS : mg "SIGNS" = some (.str "abcdefghijklmnopqrstuvwxyzABCDEFGHIJKLMNOPQRSTUVWXYZ+-*/=<>!?_" 254)
  y__law_told_0 : tblOk K tbl__law_told_0 [.ref C_NoText, .ref C_BadText] = true
theorem Gb.hT {P : Program} {K : PySem.W.Frag} {mg : Str → Option Value} (g : Gb P K mg) : 1 ≤ TT := by decide
theorem Gb.t_FIGURES {P : Program} {K : PySem.W.Frag} {mg : Str → Option Value} (g : Gb P K mg) : 252 < TT := by decide
theorem Gb.t_LEAST {P : Program} {K : PySem.W.Frag} {mg : Str → Option Value} (g : Gb P K mg) : 267 < TT := by decide
theorem Gb.t_MOST {P : Program} {K : PySem.W.Frag} {mg : Str → Option Value} (g : Gb P K mg) : 273 < TT := by decide
theorem Gb.t_MOST_FIGURES {P : Program} {K : PySem.W.Frag} {mg : Str → Option Value} (g : Gb P K mg) : 262 < TT := by decide
theorem Gb.t_MOST_SYMBOL {P : Program} {K : PySem.W.Frag} {mg : Str → Option Value} (g : Gb P K mg) : 260 < TT := by decide
theorem Gb.t_QUOTE {P : Program} {K : PySem.W.Frag} {mg : Str → Option Value} (g : Gb P K mg) : 275 < TT := by decide
theorem Gb.t_SIGNS {P : Program} {K : PySem.W.Frag} {mg : Str → Option Value} (g : Gb P K mg) : 254 < TT := by decide
section
variable {P : Program} {w : World} {K : PySem.W.Frag} {mg : Str → Option Value} {base : Heap}
theorem mk_BadText {X : Cx} {W : WX} {k : Nat} (hk : 1 ≤ k) (g : Gb X.prog X.K X.mg) (hr : Room k X.A) {e : Expr} {te : QE} {p pos : Pos} (he : QPE X TT W e te) (hg : Gl X "BadText" := by rfl) (hst : starEach [e] X.env = (false, eval e X.env) :: starEach [] X.env := by rfl) : QPMk X TT W (.Call (.Name "BadText" p) [e] [] pos) (qMk1 C_BadText "line" te) := by
  obtain ⟨fI, sx⟩ := g.e_BadText
  exact mk_sup1 (k := 0) (par := "line") (fld := "line") sx (hr.mono hk) hg g.k_BadText he g.d_BadText (hst := hst)
/-! ### is_sign -/
abbrev N_is_sign : List Str := ["sign"]
theorem sc_is_sign : FnScope N_is_sign ["sign"] (defScope s_is_sign) := ⟨rfl, rfl, rfl, by decide +kernel, rfl, by decide +kernel, by decide +kernel⟩
def rd_is_sign : QS := (qRet (qOrV (qOp (rIn false) (qVar 0) (qC (.str (tx "abcdefghijklmnopqrstuvwxyzABCDEFGHIJKLMNOPQRSTUVWXYZ+-*/=<>!?_")))) (qOp (rIn false) (qVar 0) (qC (.str (tx "0123456789"))))))
def sp_is_sign : SpD := spOf 1 N_is_sign rd_is_sign
theorem o_is_sign (g : Gb P K mg) : OkFn P w K mg base TT 2 "is_sign" ["sign"] sp_is_sign := okfn_of (k := 1) g.f_is_sign sc_is_sign rfl fun f cdv A outer s H E hr tk => by
  unfold rd_is_sign
  exact (ss_one (s_ret (q_or (q_cmp oq_in (qv 0) (q_gstr g.g_SIGNS)) (q_one (q_cmp oq_in (qv 0) (q_gstr g.g_FIGURES))))))
/-! ### is_like_integer -/
abbrev N_is_like_integer : List Str := ["word", "bare"]
theorem sc_is_like_integer : FnScope N_is_like_integer ["word"] (defScope s_is_like_integer) := ⟨rfl, rfl, rfl, by decide +kernel, rfl, by decide +kernel, by decide +kernel⟩
def rd_is_like_integer : QS := (qSeq (qSet 1 (qIf (qTest (qOp rEqD (qSl (qVar 0) qoNone (qoSome (qC (.int 1)))) (qC (.str (tx "-"))))) (qSl (qVar 0) (qoSome (qC (.int 1))) qoNone) (qVar 0)))
    (qRet (qAndV (qOp rGt (qCB rLen (qaCons (qVar 1) qaNil)) (qC (.int 0))) (qOp (rIn false) (qOp rIx (qVar 1) (qC (.int 0))) (qC (.str (tx "0123456789")))))))
def sp_is_like_integer : SpD := spOf 1 N_is_like_integer rd_is_like_integer
theorem o_is_like_integer (g : Gb P K mg) : OkFn P w K mg base TT 2 "is_like_integer" ["word"] sp_is_like_integer := okfn_of (k := 1) g.f_is_like_integer sc_is_like_integer rfl fun f cdv A outer s H E hr tk => by
  unfold rd_is_like_integer
  exact (ss_cons (s_set (i := 1) sc_is_like_integer.nd rfl (by first | exact .inl rfl | exact .inr rfl) (q_if (t_cmp oq_eq (q_slice (qv 0) o_none (o_some q_int)) q_str) (q_slice (qv 0) (o_some q_int) o_none) (qv 0)))
    (ss_one (s_ret (q_and (q_cmp oq_gt (q_callB c_len rfl g.n_len PyProof.Rows.Boot.«len» (a_cons (qv 1) a_nil)) q_int) (q_one (q_cmp oq_in (q_ix (qv 1) q_int) (q_gstr g.g_FIGURES)))))))
/-! ### is_symbol -/
abbrev N_is_symbol : List Str := ["thing", "sign"]
theorem sc_is_symbol : FnScope N_is_symbol ["thing"] (defScope s_is_symbol) := ⟨rfl, rfl, rfl, by decide +kernel, rfl, by decide +kernel, by decide +kernel⟩
def rd_is_symbol : QS := (qSeq (qIfS (qOr (qNot (qTest (qCB rIsi (qaCons (qVar 0) (qaCons (qC (.ty "str")) qaNil))))) (qOr (qNot (qTest (qChain rLe rLe (qC (.int 1)) (qCB rLen (qaCons (qVar 0) qaNil)) (qC (.int 20))))) (qTest (qCall sp_is_like_integer (qaCons (qVar 0) qaNil))))) (qRet (qC (.bl false))) qNext)
    (qRet (qCB rAll (qaCons (qLc (qIter (qVar 0)) (qgName 1) qYes (qCall sp_is_sign (qaCons (qVar 1) qaNil)) [1]) qaNil))))
def sp_is_symbol : SpD := spOf 1 N_is_symbol rd_is_symbol
theorem o_is_symbol (g : Gb P K mg) : OkFn P w K mg base TT 4 "is_symbol" ["thing"] sp_is_symbol := okfn_of (k := 3) g.f_is_symbol sc_is_symbol rfl fun f cdv A outer s H E hr tk => by
  unfold rd_is_symbol
  exact (ss_cons (s_if (t_w (w_or (t_not (t_val (q_callB c_isi rfl g.n_isinstance PyProof.Rows.Boot.«isinstance» (a_cons (qv 0) (a_cons (q_bltn (v := .ty "str") rfl g.n_str PyProof.Rows.Boot.«str» rfl (fun _ => by rw [Rep])) a_nil))))) (w_or (t_not (t_chain oq_le oq_le q_int (q_callB c_len rfl g.n_len PyProof.Rows.Boot.«len» (a_cons (qv 0) a_nil)) (q_gint g.g_MOST_SYMBOL))) (w_or1 (t_val (q_callF (o_is_like_integer g) (hr.mono (by omega)) tk (a_cons (qv 0) a_nil))))))) (ss_one (s_ret q_bl)) ss_nil)
    (ss_one (s_ret (q_callB (c_all rfl) rfl g.n_all PyProof.Rows.Boot.«all» (a_cons (q_lc (own := [("sign", 1)]) rfl sc_is_symbol.nd (i_any (qv 0)) (blkOk_by (by kernel_rfl)) (fun _ _ _ _ _ => (go_name (i := 1) sc_is_symbol.nd rfl (.inl rfl) (by decide))) (fun _ _ _ _ _ => ts_nil) (fun _ _ _ _ _ => (q_callF (o_is_sign g) (hr.mono (by omega)) takes_none5 (a_cons (qv 1) a_nil)))) a_nil)))))
/-! ### is_integer_word -/
abbrev N_is_integer_word : List Str := ["word", "bare", "sign"]
theorem sc_is_integer_word : FnScope N_is_integer_word ["word"] (defScope s_is_integer_word) := ⟨rfl, rfl, rfl, by decide +kernel, rfl, by decide +kernel, by decide +kernel⟩
def rd_is_integer_word : QS := (qSeq (qSet 1 (qIf (qTest (qOp rEqD (qSl (qVar 0) qoNone (qoSome (qC (.int 1)))) (qC (.str (tx "-"))))) (qSl (qVar 0) (qoSome (qC (.int 1))) qoNone) (qVar 0)))
    (qSeq (qIfS (qOr (qNot (qTest (qChain rLe rLe (qC (.int 1)) (qCB rLen (qaCons (qVar 1) qaNil)) (qC (.int 18))))) (qNot (qTest (qCB rAll (qaCons (qLc (qIter (qVar 1)) (qgName 2) qYes (qOp (rIn false) (qVar 2) (qC (.str (tx "0123456789")))) [2]) qaNil))))) (qRet (qC (.bl false))) qNext)
    (qRet (qAndV (qOrV (qOp rNeD (qOp rIx (qVar 1) (qC (.int 0))) (qC (.str (tx "0")))) (qOp rEqD (qVar 0) (qC (.str (tx "0"))))) (qChain rLe rLe (qC (.int (-576460752303423488))) (qCB rInt1 (qaCons (qVar 0) qaNil)) (qC (.int 576460752303423487)))))))
def sp_is_integer_word : SpD := spOf 1 N_is_integer_word rd_is_integer_word
theorem o_is_integer_word (g : Gb P K mg) : OkFn P w K mg base TT 2 "is_integer_word" ["word"] sp_is_integer_word := okfn_of (k := 1) g.f_is_integer_word sc_is_integer_word rfl fun f cdv A outer s H E hr tk => by
  unfold rd_is_integer_word
  exact (ss_cons (s_set (i := 1) sc_is_integer_word.nd rfl (by first | exact .inl rfl | exact .inr rfl) (q_if (t_cmp oq_eq (q_slice (qv 0) o_none (o_some q_int)) q_str) (q_slice (qv 0) (o_some q_int) o_none) (qv 0)))
    (ss_cons (s_if (t_w (w_or (t_not (t_chain oq_le oq_le q_int (q_callB c_len rfl g.n_len PyProof.Rows.Boot.«len» (a_cons (qv 1) a_nil)) (q_gint g.g_MOST_FIGURES))) (w_or1 (t_not (t_val (q_callB (c_all rfl) rfl g.n_all PyProof.Rows.Boot.«all» (a_cons (q_lc (own := [("sign", 2)]) rfl sc_is_integer_word.nd (i_any (qv 1)) (blkOk_by (by kernel_rfl)) (fun _ _ _ _ _ => (go_name (i := 2) sc_is_integer_word.nd rfl (.inl rfl) (by decide))) (fun _ _ _ _ _ => ts_nil) (fun _ _ _ _ _ => (q_cmp oq_in (qv 2) (q_gstr g.g_FIGURES)))) a_nil))))))) (ss_one (s_ret q_bl)) ss_nil)
    (ss_one (s_ret (q_and (q_or (q_cmp oq_ne (q_ix (qv 1) q_int) q_str) (q_one (q_cmp oq_eq (qv 0) q_str))) (q_one (q_chain oq_le oq_le (q_gint g.g_LEAST) (q_callTy c_int rfl g.n_int PyProof.Rows.Boot.«int» (a_cons (qv 0) a_nil)) (q_gint g.g_MOST))))))))
/-! ### stretch_end -/
abbrev N_stretch_end : List Str := ["text", "at"]
theorem sc_stretch_end : FnScope N_stretch_end ["text", "at"] (defScope s_stretch_end) := ⟨rfl, rfl, rfl, by decide +kernel, rfl, by decide +kernel, by decide +kernel⟩
def rd_stretch_end : QS := (qSeq (qWhile (qAnd (qTest (qOp rLt (qVar 1) (qCB rLen (qaCons (qVar 0) qaNil)))) (qTest (qCall sp_is_sign (qaCons (qOp rIx (qVar 0) (qVar 1)) qaNil)))) (qAug 1 (qC (.int 1)) rIadd))
    (qRet (qVar 1)))
def sp_stretch_end : SpD := spOf 2 N_stretch_end rd_stretch_end
theorem o_stretch_end (g : Gb P K mg) : OkFn P w K mg base TT 4 "stretch_end" ["text", "at"] sp_stretch_end := okfn_of (k := 3) g.f_stretch_end sc_stretch_end rfl fun f cdv A outer s H E hr tk => by
  unfold rd_stretch_end
  exact (ss_cons (s_while PassesOwn.leaving (t_w (w_and (t_cmp oq_lt (qv 1) (q_callB c_len rfl g.n_len PyProof.Rows.Boot.«len» (a_cons (qv 0) a_nil))) (w_and1 (t_val (q_callF (o_is_sign g) (hr.mono (by omega)) tk (a_cons (q_ix (qv 0) (qv 1)) a_nil)))))) (ss_one (s_aug (i := 1) sc_stretch_end.nd rfl (by first | exact .inl rfl | exact .inr rfl) q_int oq_iadd)))
    (ss_one (s_ret (qv 1))))
/-! ### line_end -/
abbrev N_line_end : List Str := ["text", "at", "end"]
theorem sc_line_end : FnScope N_line_end ["text", "at"] (defScope s_line_end) := ⟨rfl, rfl, rfl, by decide +kernel, rfl, by decide +kernel, by decide +kernel⟩
def rd_line_end : QS := (qSeq (qSet 2 (qBM "str" rFind3 (qVar 0) (qaCons (qC (.str (tx "\n"))) (qaCons (qVar 1) qaNil))))
    (qRet (qIf (qTest (qOp rLt (qVar 2) (qC (.int 0)))) (qCB rLen (qaCons (qVar 0) qaNil)) (qVar 2))))
def sp_line_end : SpD := spOf 2 N_line_end rd_line_end
theorem o_line_end (g : Gb P K mg) : OkFn P w K mg base TT 2 "line_end" ["text", "at"] sp_line_end := okfn_of (k := 1) g.f_line_end sc_line_end rfl fun f cdv A outer s H E hr tk => by
  unfold rd_line_end
  exact (ss_cons (s_set (i := 2) sc_line_end.nd rfl (by first | exact .inl rfl | exact .inr rfl) (q_bm PySem.F.plainAttrs_str PySem.F.slot_str_find PySem.F.type_str_find m_find3 (qv 0) (a_cons q_str (a_cons (qv 1) a_nil))))
    (ss_one (s_ret (q_if (t_cmp oq_lt (qv 2) q_int) (q_callB c_len rfl g.n_len PyProof.Rows.Boot.«len» (a_cons (qv 0) a_nil)) (qv 2)))))
/-! ### text_end -/
abbrev N_text_end : List Str := ["text", "at", "here"]
theorem sc_text_end : FnScope N_text_end ["text", "at"] (defScope s_text_end) := ⟨rfl, rfl, rfl, by decide +kernel, rfl, by decide +kernel, by decide +kernel⟩
def rd_text_end : QS := (qSeq (qSet 2 (qOp rAdd (qVar 1) (qC (.int 1))))
    (qSeq (qWhile (qAnd (qTest (qOp rLt (qVar 2) (qCB rLen (qaCons (qVar 0) qaNil)))) (qTest (qOp rNeD (qOp rIx (qVar 0) (qVar 2)) (qC (.str (tx "\n")))))) (qSeq (qIfS (qTest (qOp rEqD (qOp rIx (qVar 0) (qVar 2)) (qC (.str (tx "\""))))) (qSeq (qIfS (qTest (qOp rNeD (qSl (qVar 0) (qoSome (qOp rAdd (qVar 2) (qC (.int 1)))) (qoSome (qOp rAdd (qVar 2) (qC (.int 2))))) (qC (.str (tx "\""))))) (qRet (qVar 2)) qNext)
    (qAug 2 (qC (.int 1)) rIadd)) qNext)
    (qAug 2 (qC (.int 1)) rIadd)))
    (qRet (qC .non))))
def sp_text_end : SpD := spOf 2 N_text_end rd_text_end
theorem o_text_end (g : Gb P K mg) : OkFn P w K mg base TT 2 "text_end" ["text", "at"] sp_text_end := okfn_of (k := 1) g.f_text_end sc_text_end rfl fun f cdv A outer s H E hr tk => by
  unfold rd_text_end
  exact (ss_cons (s_set (i := 2) sc_text_end.nd rfl (by first | exact .inl rfl | exact .inr rfl) (q_op oq_add (qv 1) q_int))
    (ss_cons (s_while PassesOwn.leaving (t_w (w_and (t_cmp oq_lt (qv 2) (q_callB c_len rfl g.n_len PyProof.Rows.Boot.«len» (a_cons (qv 0) a_nil))) (w_and1 (t_cmp oq_ne (q_ix (qv 0) (qv 2)) q_str)))) (ss_cons (s_if (t_cmp oq_eq (q_ix (qv 0) (qv 2)) (q_gstr g.g_QUOTE)) (ss_cons (s_if (t_cmp oq_ne (q_slice (qv 0) (o_some (q_op oq_add (qv 2) q_int)) (o_some (q_op oq_add (qv 2) q_int))) (q_gstr g.g_QUOTE)) (ss_one (s_ret (qv 2))) ss_nil)
    (ss_one (s_aug (i := 2) sc_text_end.nd rfl (by first | exact .inl rfl | exact .inr rfl) q_int oq_iadd))) ss_nil)
    (ss_one (s_aug (i := 2) sc_text_end.nd rfl (by first | exact .inl rfl | exact .inr rfl) q_int oq_iadd))))
    (ss_one (s_ret q_non))))
/-! ### stretch_word -/
abbrev N_stretch_word : List Str := ["word", "line"]
theorem sc_stretch_word : FnScope N_stretch_word ["word", "line"] (defScope s_stretch_word) := ⟨rfl, rfl, rfl, by decide +kernel, rfl, by decide +kernel, by decide +kernel⟩
def rd_stretch_word : QS := (qSeq (qIfS (qTest (qCall sp_is_integer_word (qaCons (qVar 0) qaNil))) (qRet (qTup (qaCons (qC (.str (tx "int"))) (qaCons (qCB rInt1 (qaCons (qVar 0) qaNil)) qaNil)))) qNext)
    (qSeq (qIfS (qNot (qTest (qCall sp_is_symbol (qaCons (qVar 0) qaNil)))) (qRaise (qMk1 C_BadText "line" (qVar 1))) qNext)
    (qRet (qTup (qaCons (qC (.str (tx "symbol"))) (qaCons (qVar 0) qaNil))))))
def sp_stretch_word : SpD := spOf 2 N_stretch_word rd_stretch_word
theorem o_stretch_word (g : Gb P K mg) : OkFn P w K mg base TT 6 "stretch_word" ["word", "line"] sp_stretch_word := okfn_of (k := 5) g.f_stretch_word sc_stretch_word rfl fun f cdv A outer s H E hr tk => by
  unfold rd_stretch_word
  exact (ss_cons (s_if (t_val (q_callF (o_is_integer_word g) (hr.mono (by omega)) tk (a_cons (qv 0) a_nil))) (ss_one (s_ret (q_tup (a_cons q_str (a_cons (q_callTy c_int rfl g.n_int PyProof.Rows.Boot.«int» (a_cons (qv 0) a_nil)) a_nil))))) ss_nil)
    (ss_cons (s_if (t_not (t_val (q_callF (o_is_symbol g) (hr.mono (by omega)) tk (a_cons (qv 0) a_nil)))) (ss_one (s_raise rfl tk (mk_BadText (by omega) g hr (by exact (qv 1))))) ss_nil)
    (ss_one (s_ret (q_tup (a_cons q_str (a_cons (qv 0) a_nil)))))))
/-! ### word_from -/
abbrev N_word_from : List Str := ["text", "at", "line", "end"]
theorem sc_word_from : FnScope N_word_from ["text", "at", "line"] (defScope s_word_from) := ⟨rfl, rfl, rfl, by decide +kernel, rfl, by decide +kernel, by decide +kernel⟩
def rd_word_from : QS := (qSeq (qSet 3 (qCall sp_stretch_end (qaCons (qVar 0) (qaCons (qVar 1) qaNil))))
    (qSeq (qIfS (qTest (qOp rGt (qVar 3) (qVar 1))) (qRet (qOp rAdd (qCall sp_stretch_word (qaCons (qSl (qVar 0) (qoSome (qVar 1)) (qoSome (qVar 3))) (qaCons (qVar 2) qaNil))) (qTup (qaCons (qVar 3) qaNil)))) qNext)
    (qSeq (qIfS (qTest (qOp (rIn false) (qOp rIx (qVar 0) (qVar 1)) (qC (.tup D_MARKS)))) (qRet (qTup (qaCons (qC (.str (tx "mark"))) (qaCons (qOp rIx (qVar 0) (qVar 1)) (qaCons (qOp rAdd (qVar 1) (qC (.int 1))) qaNil))))) qNext)
    (qSeq (qIfS (qTest (qOp rNeD (qOp rIx (qVar 0) (qVar 1)) (qC (.str (tx "\""))))) (qRaise (qMk1 C_BadText "line" (qVar 2))) qNext)
    (qSeq (qSet 3 (qCall sp_text_end (qaCons (qVar 0) (qaCons (qVar 1) qaNil))))
    (qSeq (qIfS (qTest (qOp rIsN (qVar 3) (qC .non))) (qRaise (qMk1 C_BadText "line" (qVar 2))) qNext)
    (qRet (qTup (qaCons (qC (.str (tx "text"))) (qaCons (qRepl [34, 34] [34] (qSl (qVar 0) (qoSome (qOp rAdd (qVar 1) (qC (.int 1)))) (qoSome (qVar 3)))) (qaCons (qOp rAdd (qVar 3) (qC (.int 1))) qaNil)))))))))))
def sp_word_from : SpD := spOf 3 N_word_from rd_word_from
theorem o_word_from (g : Gb P K mg) : OkFn P w K mg base TT 8 "word_from" ["text", "at", "line"] sp_word_from := okfn_of (k := 7) g.f_word_from sc_word_from rfl fun f cdv A outer s H E hr tk => by
  unfold rd_word_from
  exact (ss_cons (s_set (i := 3) sc_word_from.nd rfl (by first | exact .inl rfl | exact .inr rfl) (q_callF (o_stretch_end g) (hr.mono (by omega)) tk (a_cons (qv 0) (a_cons (qv 1) a_nil))))
    (ss_cons (s_if (t_cmp oq_gt (qv 3) (qv 1)) (ss_one (s_ret (q_op oq_add (q_callF (o_stretch_word g) (hr.mono (by omega)) tk (a_cons (q_slice (qv 0) (o_some (qv 1)) (o_some (qv 3))) (a_cons (qv 2) a_nil))) (q_tup (a_cons (qv 3) a_nil))))) ss_nil)
    (ss_cons (s_if (t_cmp oq_in (q_ix (qv 0) (qv 1)) (q_gtup g.g_MARKS)) (ss_one (s_ret (q_tup (a_cons q_str (a_cons (q_ix (qv 0) (qv 1)) (a_cons (q_op oq_add (qv 1) q_int) a_nil)))))) ss_nil)
    (ss_cons (s_if (t_cmp oq_ne (q_ix (qv 0) (qv 1)) (q_gstr g.g_QUOTE)) (ss_one (s_raise rfl tk (mk_BadText (by omega) g hr (by exact (qv 2))))) ss_nil)
    (ss_cons (s_set (i := 3) sc_word_from.nd rfl (by first | exact .inl rfl | exact .inr rfl) (q_callF (o_text_end g) (hr.mono (by omega)) tk (a_cons (qv 0) (a_cons (qv 1) a_nil))))
    (ss_cons (s_if (t_cmp oq_isN (qv 3) q_non) (ss_one (s_raise rfl tk (mk_BadText (by omega) g hr (by exact (qv 2))))) ss_nil)
    (ss_one (s_ret (q_tup (a_cons q_str (a_cons (q_replG (q_slice (qv 0) (o_some (q_op oq_add (qv 1) q_int)) (o_some (qv 3))) rfl g.g_QUOTE (by decide) g.t_QUOTE) (a_cons (q_op oq_add (qv 3) q_int) a_nil))))))))))))
/-! ### words -/
abbrev N_words : List Str := ["text", "found", "at", "line", "sort", "word"]
theorem sc_words : FnScope N_words ["text"] (defScope s_words) := ⟨rfl, rfl, rfl, by decide +kernel, rfl, by decide +kernel, by decide +kernel⟩
def rd_words : QS := (qSeq (qIfS (qNot (qTest (qCB rIsi (qaCons (qVar 0) (qaCons (qC (.ty "str")) qaNil))))) (qRaise (qMk0 C_NoText)) qNext)
    (qSeq (qSet 1 (qLst qaNil))
    (qSeq (qAsg (qTup (qaCons (qC (.int 0)) (qaCons (qC (.int 1)) qaNil))) (qgTup 2 (qgCons (qgName 2) (qgCons (qgName 3) qgNil))))
    (qSeq (qWhile (qTest (qOp rLt (qVar 2) (qCB rLen (qaCons (qVar 0) qaNil)))) (qIfS (qTest (qOp rEqD (qOp rIx (qVar 0) (qVar 2)) (qC (.str (tx ";"))))) (qSet 2 (qCall sp_line_end (qaCons (qVar 0) (qaCons (qVar 2) qaNil)))) (qIfS (qTest (qOp (rIn false) (qOp rIx (qVar 0) (qVar 2)) (qC (.str (tx " \n"))))) (qSeq (qAug 3 (qIf (qTest (qOp rEqD (qOp rIx (qVar 0) (qVar 2)) (qC (.str (tx "\n"))))) (qC (.int 1)) (qC (.int 0))) rIadd)
    (qAug 2 (qC (.int 1)) rIadd)) (qSeq (qAsg (qCall sp_word_from (qaCons (qVar 0) (qaCons (qVar 2) (qaCons (qVar 3) qaNil)))) (qgTup 3 (qgCons (qgName 4) (qgCons (qgName 5) (qgCons (qgName 2) qgNil)))))
    (qDrop (qBM "list" rAppend (qVar 1) (qaCons (qTup (qaCons (qVar 4) (qaCons (qVar 5) (qaCons (qVar 3) qaNil)))) qaNil)))))))
    (qRet (qVar 1))))))
def sp_words : SpD := spOf 1 N_words rd_words
theorem o_words (g : Gb P K mg) : OkFn P w K mg base TT 10 "words" ["text"] sp_words := okfn_of (k := 9) g.f_words sc_words rfl fun f cdv A outer s H E hr tk => by
  unfold rd_words
  exact (ss_cons (s_if (t_not (t_val (q_callB c_isi rfl g.n_isinstance PyProof.Rows.Boot.«isinstance» (a_cons (qv 0) (a_cons (q_bltn (v := .ty "str") rfl g.n_str PyProof.Rows.Boot.«str» rfl (fun _ => by rw [Rep])) a_nil))))) (ss_one (s_raise rfl tk (m_cls0 g.e_NoText))) ss_nil)
    (ss_cons (s_set (i := 1) sc_words.nd rfl (by first | exact .inl rfl | exact .inr rfl) (q_lst a_nil))
    (ss_cons (s_asg (q_tup (a_cons q_int (a_cons q_int a_nil))) (g_tup rfl (gs_cons (g_name (i := 2) sc_words.nd rfl (by first | exact .inl rfl | exact .inr rfl)) (gs_cons (g_name (i := 3) sc_words.nd rfl (by first | exact .inl rfl | exact .inr rfl)) gs_nil))))
    (ss_cons (s_while PassesOwn.leaving (t_cmp oq_lt (qv 2) (q_callB c_len rfl g.n_len PyProof.Rows.Boot.«len» (a_cons (qv 0) a_nil))) (ss_one (s_if (t_cmp oq_eq (q_ix (qv 0) (qv 2)) q_str) (ss_one (s_set (i := 2) sc_words.nd rfl (by first | exact .inl rfl | exact .inr rfl) (q_callF (o_line_end g) (hr.mono (by omega)) tk (a_cons (qv 0) (a_cons (qv 2) a_nil))))) (ss_one (s_if (t_cmp oq_in (q_ix (qv 0) (qv 2)) q_str) (ss_cons (s_aug (i := 3) sc_words.nd rfl (by first | exact .inl rfl | exact .inr rfl) (q_if (t_cmp oq_eq (q_ix (qv 0) (qv 2)) q_str) q_int q_int) oq_iadd)
    (ss_one (s_aug (i := 2) sc_words.nd rfl (by first | exact .inl rfl | exact .inr rfl) q_int oq_iadd))) (ss_cons (s_asg (q_callF (o_word_from g) (hr.mono (by omega)) tk (a_cons (qv 0) (a_cons (qv 2) (a_cons (qv 3) a_nil)))) (g_tup rfl (gs_cons (g_name (i := 4) sc_words.nd rfl (by first | exact .inl rfl | exact .inr rfl)) (gs_cons (g_name (i := 5) sc_words.nd rfl (by first | exact .inl rfl | exact .inr rfl)) (gs_cons (g_name (i := 2) sc_words.nd rfl (by first | exact .inl rfl | exact .inr rfl)) gs_nil)))))
    (ss_one (s_expr (q_bm PySem.F.plainAttrs_list PySem.F.slot_list_append PySem.F.type_list_append m_append (qv 1) (a_cons (q_tup (a_cons (qv 4) (a_cons (qv 5) (a_cons (qv 3) a_nil)))) a_nil))))))))))
    (ss_one (s_ret (qv 1)))))))
/-! ### _law_flow -/
abbrev N__law_flow : List Str := ["script"]
theorem sc__law_flow : FnScope N__law_flow ["script"] (defScope s__law_flow) := ⟨rfl, rfl, rfl, by decide +kernel, rfl, by decide +kernel, by decide +kernel⟩
def rd__law_flow : QS := (qRet (qLst (qaCons (qCB rList (qaCons (qVar 0) qaNil)) (qaCons (qC (.int 0)) (qaCons (qC (.int 0)) (qaCons (qC (.int 17)) qaNil))))))
def sp__law_flow : SpD := spOf 1 N__law_flow rd__law_flow
theorem o__law_flow (g : Gb P K mg) : OkFn P w K mg base TT 2 "_law_flow" ["script"] sp__law_flow := okfn_of (k := 1) g.f__law_flow sc__law_flow rfl fun f cdv A outer s H E hr tk => by
  unfold rd__law_flow
  exact (ss_one (s_ret (q_lst (a_cons (q_callTy c_list rfl g.n_list PyProof.Rows.Boot.«list» (a_cons (qv 0) a_nil)) (a_cons q_int (a_cons q_int (a_cons q_int a_nil)))))))
/-! ### _law_more -/
abbrev N__law_more : List Str := ["flow", "cell", "one", "two", "three"]
theorem sc__law_more : FnScope N__law_more ["flow"] (defScope s__law_more) := ⟨rfl, rfl, rfl, by decide +kernel, rfl, by decide +kernel, by decide +kernel⟩
def rd__law_more : QS := (qSeq (qSet 1 (qC (.int 0)))
    (qSeq (qIfS (qTest (qOp rLt (qOp rIx (qVar 0) (qC (.int 1))) (qCB rLen (qaCons (qOp rIx (qVar 0) (qC (.int 0))) qaNil)))) (qSet 1 (qOp rIx (qOp rIx (qVar 0) (qC (.int 0))) (qOp rIx (qVar 0) (qC (.int 1))))) qNext)
    (qSeq (qAugS (qVar 0) (qC (.int 1)) (qC (.int 1)) rIadd)
    (qSeq (qIfS (qTest (qOp rGe (qVar 1) (qOp rPow (qC (.int 10)) (qC (.int 18))))) (qSeq (qAsg (qVar 1) (qgSub (qVar 0) (qC (.int 2))))
    qRetN) qNext)
    (qSeq (qSet 2 (qOp rMod (qCB rInt1 (qaCons (qOp rAdd (qOp rAdd (qOp rAdd (qOp rMulW (qOp rIx (qVar 0) (qC (.int 3))) (qC (.int 31))) (qOp rMulW (qCB rAbs (qaCons (qVar 1) qaNil)) (qC (.int 2)))) (qCB rInt1 (qaCons (qOp rLt (qVar 1) (qC (.int 0))) qaNil))) (qOp rMulW (qC (.int 7919)) (qOp rIx (qVar 0) (qC (.int 1))))) qaNil)) (qC (.int 2147483629))))
    (qSeq (qSet 2 (qOp rMod (qCB rInt1 (qaCons (qOp rAdd (qOp rMulW (qVar 2) (qC (.int 48271))) (qC (.int 11))) qaNil)) (qC (.int 2147483647))))
    (qSeq (qSet 3 (qOp rMod (qCB rInt1 (qaCons (qOp rAdd (qOp rMulW (qVar 2) (qOp rAdd (qOp rFdivW (qVar 2) (qC (.int 1009))) (qC (.int 69621)))) (qC (.int 7))) qaNil)) (qC (.int 2147483399))))
    (qSeq (qSet 4 (qOp rMod (qCB rInt1 (qaCons (qOp rAdd (qOp rMulW (qVar 3) (qOp rAdd (qOp rFdivW (qVar 3) (qC (.int 2003))) (qC (.int 40692)))) (qVar 2)) qaNil)) (qC (.int 2147483563))))
    (qSeq (qAsg (qVar 4) (qgSub (qVar 0) (qC (.int 3))))
    (qAsg (qOp rAdd (qOp rMulW (qOp rAdd (qOp rMulW (qVar 2) (qC (.int 2147483399))) (qVar 3)) (qC (.int 2147483563))) (qVar 4)) (qgSub (qVar 0) (qC (.int 2)))))))))))))
def sp__law_more : SpD := spOf 1 N__law_more rd__law_more
theorem o__law_more (g : Gb P K mg) : OkFn P w K mg base TT 2 "_law_more" ["flow"] sp__law_more := okfn_of (k := 1) g.f__law_more sc__law_more rfl fun f cdv A outer s H E hr tk => by
  unfold rd__law_more
  exact (ss_cons (s_set (i := 1) sc__law_more.nd rfl (by first | exact .inl rfl | exact .inr rfl) q_int)
    (ss_cons (s_if (t_cmp oq_lt (q_ix (qv 0) q_int) (q_callB c_len rfl g.n_len PyProof.Rows.Boot.«len» (a_cons (q_ix (qv 0) q_int) a_nil))) (ss_one (s_set (i := 1) sc__law_more.nd rfl (by first | exact .inl rfl | exact .inr rfl) (q_ix (q_ix (qv 0) q_int) (q_ix (qv 0) q_int)))) ss_nil)
    (ss_cons (s_augS (qv 0) q_int q_int oq_iadd)
    (ss_cons (s_if (t_cmp oq_ge (qv 1) (q_op oq_pow q_int q_int)) (ss_cons (s_asg (qv 1) (g_sub (qv 0) q_int))
    (ss_one s_retN)) ss_nil)
    (ss_cons (s_set (i := 2) sc__law_more.nd rfl (by first | exact .inl rfl | exact .inr rfl) (q_op oq_mod (q_callTy c_int rfl g.n_int PyProof.Rows.Boot.«int» (a_cons (q_op oq_add (q_op oq_add (q_op oq_add (q_op oq_mulW (q_ix (qv 0) q_int) q_int) (q_op oq_mulW (q_callB c_abs rfl g.n_abs PyProof.Rows.Boot.«abs» (a_cons (qv 1) a_nil)) q_int)) (q_callTy c_int rfl g.n_int PyProof.Rows.Boot.«int» (a_cons (q_cmp oq_lt (qv 1) q_int) a_nil))) (q_op oq_mulW q_int (q_ix (qv 0) q_int))) a_nil)) q_int))
    (ss_cons (s_set (i := 2) sc__law_more.nd rfl (by first | exact .inl rfl | exact .inr rfl) (q_op oq_mod (q_callTy c_int rfl g.n_int PyProof.Rows.Boot.«int» (a_cons (q_op oq_add (q_op oq_mulW (qv 2) q_int) q_int) a_nil)) q_int))
    (ss_cons (s_set (i := 3) sc__law_more.nd rfl (by first | exact .inl rfl | exact .inr rfl) (q_op oq_mod (q_callTy c_int rfl g.n_int PyProof.Rows.Boot.«int» (a_cons (q_op oq_add (q_op oq_mulW (qv 2) (q_op oq_add (q_op oq_fdivW (qv 2) q_int) q_int)) q_int) a_nil)) q_int))
    (ss_cons (s_set (i := 4) sc__law_more.nd rfl (by first | exact .inl rfl | exact .inr rfl) (q_op oq_mod (q_callTy c_int rfl g.n_int PyProof.Rows.Boot.«int» (a_cons (q_op oq_add (q_op oq_mulW (qv 3) (q_op oq_add (q_op oq_fdivW (qv 3) q_int) q_int)) (qv 2)) a_nil)) q_int))
    (ss_cons (s_asg (qv 4) (g_sub (qv 0) q_int))
    (ss_one (s_asg (q_op oq_add (q_op oq_mulW (q_op oq_add (q_op oq_mulW (qv 2) q_int) (qv 3)) q_int) (qv 4)) (g_sub (qv 0) q_int))))))))))))
/-! ### _law_draw -/
abbrev N__law_draw : List Str := ["flow", "many", "digit"]
theorem sc__law_draw : FnScope N__law_draw ["flow", "many"] (defScope s__law_draw) := ⟨rfl, rfl, rfl, by decide +kernel, rfl, by decide +kernel, by decide +kernel⟩
def rd__law_draw : QS := (qSeq (qIfS (qTest (qOp rLt (qOp rIx (qVar 0) (qC (.int 2))) (qVar 1))) (qDrop (qCall sp__law_more (qaCons (qVar 0) qaNil))) qNext)
    (qSeq (qSet 2 (qOp rMod (qCB rInt1 (qaCons (qOp rIx (qVar 0) (qC (.int 2))) qaNil)) (qVar 1)))
    (qSeq (qAsg (qOp rFdivW (qOp rIx (qVar 0) (qC (.int 2))) (qVar 1)) (qgSub (qVar 0) (qC (.int 2))))
    (qRet (qVar 2)))))
def sp__law_draw : SpD := spOf 2 N__law_draw rd__law_draw
theorem o__law_draw (g : Gb P K mg) : OkFn P w K mg base TT 4 "_law_draw" ["flow", "many"] sp__law_draw := okfn_of (k := 3) g.f__law_draw sc__law_draw rfl fun f cdv A outer s H E hr tk => by
  unfold rd__law_draw
  exact (ss_cons (s_if (t_cmp oq_lt (q_ix (qv 0) q_int) (qv 1)) (ss_one (s_expr (q_callF (o__law_more g) (hr.mono (by omega)) tk (a_cons (qv 0) a_nil)))) ss_nil)
    (ss_cons (s_set (i := 2) sc__law_draw.nd rfl (by first | exact .inl rfl | exact .inr rfl) (q_op oq_mod (q_callTy c_int rfl g.n_int PyProof.Rows.Boot.«int» (a_cons (q_ix (qv 0) q_int) a_nil)) (qv 1)))
    (ss_cons (s_asg (q_op oq_fdivW (q_ix (qv 0) q_int) (qv 1)) (g_sub (qv 0) q_int))
    (ss_one (s_ret (qv 2))))))
/-! ### _law_same -/
abbrev N__law_same : List Str := ["found", "due", "k"]
theorem sc__law_same : FnScope N__law_same ["found", "due"] (defScope s__law_same) := ⟨rfl, rfl, rfl, by decide +kernel, rfl, by decide +kernel, by decide +kernel⟩
def rd__law_same (sp_self : SpD) : QS := (qSeq (qIfS (qOr (qTest (qCB rIsi (qaCons (qVar 1) (qaCons (qC (.ty "list")) qaNil)))) (qTest (qCB rIsi (qaCons (qVar 1) (qaCons (qC (.ty "tuple")) qaNil))))) (qSeq (qIfS (qOr (qAnd (qTest (qCB rIsi (qaCons (qVar 1) (qaCons (qC (.ty "list")) qaNil)))) (qNot (qTest (qCB rIsi (qaCons (qVar 0) (qaCons (qC (.ty "list")) qaNil)))))) (qAnd (qTest (qCB rIsi (qaCons (qVar 1) (qaCons (qC (.ty "tuple")) qaNil)))) (qNot (qTest (qCB rIsi (qaCons (qVar 0) (qaCons (qC (.ty "tuple")) qaNil))))))) (qRet (qC (.bl false))) qNext)
    (qRet (qAndV (qOp rEqD (qCB rLen (qaCons (qVar 0) qaNil)) (qCB rLen (qaCons (qVar 1) qaNil))) (qCB rAll (qaCons (qLc (qRng1 (qaCons (qCB rLen (qaCons (qVar 1) qaNil)) qaNil)) (qgName 2) qYes (qCall sp_self (qaCons (qOp rIx (qVar 0) (qVar 2)) (qaCons (qOp rIx (qVar 1) (qVar 2)) qaNil))) [2]) qaNil))))) qNext)
    (qSeq (qIfS (qTest (qOp rIsN (qVar 1) (qC .non))) (qRet (qOp rIsN (qVar 0) (qC .non))) qNext)
    (qSeq (qIfS (qTest (qCB rIsi (qaCons (qVar 1) (qaCons (qC (.ty "bool")) qaNil)))) (qRet (qAndV (qCB rIsi (qaCons (qVar 0) (qaCons (qC (.ty "bool")) qaNil))) (qOp rEqD (qVar 0) (qVar 1)))) qNext)
    (qSeq (qIfS (qTest (qCB rIsi (qaCons (qVar 1) (qaCons (qC (.ty "int")) qaNil)))) (qRet (qAndV (qCB rIsi (qaCons (qVar 0) (qaCons (qC (.ty "int")) qaNil))) (qAndV (qNotV (qCB rIsi (qaCons (qVar 0) (qaCons (qC (.ty "bool")) qaNil)))) (qOp rEqD (qVar 0) (qVar 1))))) qNext)
    (qRet (qAndV (qCB rIsi (qaCons (qVar 0) (qaCons (qC (.ty "str")) qaNil))) (qOp rEqD (qVar 0) (qVar 1))))))))
theorem st__law_same (g : Gb P K mg) {k : Nat} {sp sp_self : SpD} (self : OkFn P w K mg base TT k "_law_same" ["found", "due"] sp_self) (hk : 1 ≤ k) (len : ∀ ds M Q E, sp ds M Q E → ds.length = 2) (hsp : ∀ ds M Q E, sp ds M Q E → rd__law_same sp_self (endsD Q E) (startD N__law_same ds) M) : OkFn P w K mg base TT (k + 1) "_law_same" ["found", "due"] sp := okfn_sp (k := k) (t := rd__law_same sp_self) g.f__law_same sc__law_same (by exact len) (fun f cdv A outer s H E hr tk => by
  unfold rd__law_same
  exact (ss_cons (s_if (t_w (w_or (t_val (q_callB c_isi rfl g.n_isinstance PyProof.Rows.Boot.«isinstance» (a_cons (qv 1) (a_cons (q_bltn (v := .ty "list") rfl g.n_list PyProof.Rows.Boot.«list» rfl (fun _ => by rw [Rep])) a_nil)))) (w_or1 (t_val (q_callB c_isi rfl g.n_isinstance PyProof.Rows.Boot.«isinstance» (a_cons (qv 1) (a_cons (q_bltn (v := .ty "tuple") rfl g.n_tuple PyProof.Rows.Boot.«tuple» rfl (fun _ => by rw [Rep])) a_nil))))))) (ss_cons (s_if (t_w (w_or (t_w (w_and (t_val (q_callB c_isi rfl g.n_isinstance PyProof.Rows.Boot.«isinstance» (a_cons (qv 1) (a_cons (q_bltn (v := .ty "list") rfl g.n_list PyProof.Rows.Boot.«list» rfl (fun _ => by rw [Rep])) a_nil)))) (w_and1 (t_not (t_val (q_callB c_isi rfl g.n_isinstance PyProof.Rows.Boot.«isinstance» (a_cons (qv 0) (a_cons (q_bltn (v := .ty "list") rfl g.n_list PyProof.Rows.Boot.«list» rfl (fun _ => by rw [Rep])) a_nil)))))))) (w_or1 (t_w (w_and (t_val (q_callB c_isi rfl g.n_isinstance PyProof.Rows.Boot.«isinstance» (a_cons (qv 1) (a_cons (q_bltn (v := .ty "tuple") rfl g.n_tuple PyProof.Rows.Boot.«tuple» rfl (fun _ => by rw [Rep])) a_nil)))) (w_and1 (t_not (t_val (q_callB c_isi rfl g.n_isinstance PyProof.Rows.Boot.«isinstance» (a_cons (qv 0) (a_cons (q_bltn (v := .ty "tuple") rfl g.n_tuple PyProof.Rows.Boot.«tuple» rfl (fun _ => by rw [Rep])) a_nil))))))))))) (ss_one (s_ret q_bl)) ss_nil)
    (ss_one (s_ret (q_and (q_cmp oq_eq (q_callB c_len rfl g.n_len PyProof.Rows.Boot.«len» (a_cons (qv 0) a_nil)) (q_callB c_len rfl g.n_len PyProof.Rows.Boot.«len» (a_cons (qv 1) a_nil))) (q_one (q_callB (c_all rfl) rfl g.n_all PyProof.Rows.Boot.«all» (a_cons (q_lc (own := [("k", 2)]) rfl sc__law_same.nd (i_rng1 rfl g.n_range (a_cons (q_callB c_len rfl g.n_len PyProof.Rows.Boot.«len» (a_cons (qv 1) a_nil)) a_nil)) (blkOk_by (by kernel_rfl)) (fun _ _ _ _ _ => (go_name (i := 2) sc__law_same.nd rfl (.inl rfl) (by decide))) (fun _ _ _ _ _ => ts_nil) (fun _ _ _ _ _ => (q_callF self (hr.mono (by omega)) takes_none5 (a_cons (q_ix (qv 0) (qv 2)) (a_cons (q_ix (qv 1) (qv 2)) a_nil))))) a_nil))))))) ss_nil)
    (ss_cons (s_if (t_cmp oq_isN (qv 1) q_non) (ss_one (s_ret (q_cmp oq_isN (qv 0) q_non))) ss_nil)
    (ss_cons (s_if (t_val (q_callB c_isi rfl g.n_isinstance PyProof.Rows.Boot.«isinstance» (a_cons (qv 1) (a_cons (q_bltn (v := .ty "bool") rfl g.n_bool PyProof.Rows.Boot.«bool» rfl (fun _ => by rw [Rep])) a_nil)))) (ss_one (s_ret (q_and (q_callB c_isi rfl g.n_isinstance PyProof.Rows.Boot.«isinstance» (a_cons (qv 0) (a_cons (q_bltn (v := .ty "bool") rfl g.n_bool PyProof.Rows.Boot.«bool» rfl (fun _ => by rw [Rep])) a_nil))) (q_one (q_cmp oq_eq (qv 0) (qv 1)))))) ss_nil)
    (ss_cons (s_if (t_val (q_callB c_isi rfl g.n_isinstance PyProof.Rows.Boot.«isinstance» (a_cons (qv 1) (a_cons (q_bltn (v := .ty "int") rfl g.n_int PyProof.Rows.Boot.«int» rfl (fun _ => by rw [Rep])) a_nil)))) (ss_one (s_ret (q_and (q_callB c_isi rfl g.n_isinstance PyProof.Rows.Boot.«isinstance» (a_cons (qv 0) (a_cons (q_bltn (v := .ty "int") rfl g.n_int PyProof.Rows.Boot.«int» rfl (fun _ => by rw [Rep])) a_nil))) (q_and (q_not (q_callB c_isi rfl g.n_isinstance PyProof.Rows.Boot.«isinstance» (a_cons (qv 0) (a_cons (q_bltn (v := .ty "bool") rfl g.n_bool PyProof.Rows.Boot.«bool» rfl (fun _ => by rw [Rep])) a_nil)))) (q_one (q_cmp oq_eq (qv 0) (qv 1))))))) ss_nil)
    (ss_one (s_ret (q_and (q_callB c_isi rfl g.n_isinstance PyProof.Rows.Boot.«isinstance» (a_cons (qv 0) (a_cons (q_bltn (v := .ty "str") rfl g.n_str PyProof.Rows.Boot.«str» rfl (fun _ => by rw [Rep])) a_nil))) (q_one (q_cmp oq_eq (qv 0) (qv 1))))))))))) hsp
end
/-! ### likeness -/
inductive PV where
  | non
  | int (i : Int)
  | str (x : List Nat)
  | tup (xs : List PV)
  | lst (xs : List PV)
mutual
def Den (M : Mp) : D → PV → Prop
  | d, .non => d = .non
  | d, .int i => d = .int i
  | d, .str x => d = .str x
  | d, .tup vs => ∃ xs, d = .tup xs ∧ Dens M xs vs
  | d, .lst vs => ∃ p xs, d = .ref p ∧ M p = some (.lst xs) ∧ Dens M xs vs
def Dens (M : Mp) : List D → List PV → Prop
  | ds, [] => ds = []
  | ds, v :: vs => ∃ d r, ds = d :: r ∧ Den M d v ∧ Dens M r vs
end
mutual
theorem Den.ext {M M' : Mp} (e : MExt M M') : ∀ (v : PV) (d : D), Den M d v → Den M' d v
  | .non, _, h => h
  | .int _, _, h => h
  | .str _, _, h => h
  | .tup vs, d, h => by
    rw [Den] at h ⊢
    obtain ⟨xs, h1, h2⟩ := h
    exact ⟨xs, h1, Dens.ext e vs xs h2⟩
  | .lst vs, d, h => by
    rw [Den] at h ⊢
    obtain ⟨p, xs, h1, h2, h3⟩ := h
    exact ⟨p, xs, h1, e _ _ h2, Dens.ext e vs xs h3⟩
theorem Dens.ext {M M' : Mp} (e : MExt M M') : ∀ (vs : List PV) (ds : List D), Dens M ds vs → Dens M' ds vs
  | [], _, h => h
  | v :: vs, ds, h => by
    rw [Dens] at h ⊢
    obtain ⟨d, r, h1, h2, h3⟩ := h
    exact ⟨d, r, h1, Den.ext e v d h2, Dens.ext e vs r h3⟩
end
theorem Dens.length {M : Mp} : ∀ {vs : List PV} {ds : List D}, Dens M ds vs → ds.length = vs.length
  | [], ds, h => by rw [Dens] at h; rw [h]; rfl
  | v :: vs, ds, h => by
    rw [Dens] at h
    obtain ⟨d, r, rfl, _, h3⟩ := h
    rw [List.length_cons, List.length_cons, Dens.length h3]
theorem Dens.get {M : Mp} : ∀ {vs : List PV} {ds : List D} {i : Nat}, Dens M ds vs → i < vs.length → ∃ d v, ds[i]? = some d ∧ vs[i]? = some v ∧ Den M d v
  | [], ds, i, h, hi => by simp at hi
  | v :: vs, ds, i, h, hi => by
    rw [Dens] at h
    obtain ⟨d, r, rfl, h2, h3⟩ := h
    cases i with
    | zero => exact ⟨d, v, by simp, by simp, h2⟩
    | succ i =>
      obtain ⟨d', v', a, b, c⟩ := Dens.get (i := i) h3 (by simpa using hi)
      exact ⟨d', v', by simpa using a, by simpa using b, c⟩
mutual
/-- of depth at most n, its lists not too long -/
def Fit : Nat → PV → Prop
  | 0, .tup _ => False
  | 0, .lst _ => False
  | n + 1, .tup vs => vs.length ≤ LTX ∧ Fits n vs
  | n + 1, .lst vs => vs.length ≤ LTX ∧ Fits n vs
  | _, _ => True
def Fits : Nat → List PV → Prop
  | _, [] => True
  | n, v :: vs => Fit n v ∧ Fits n vs
end
theorem Fits.get : ∀ {n : Nat} {vs : List PV} {i : Nat} {v : PV}, Fits n vs → vs[i]? = some v → Fit n v
  | n, [], i, v, h, e => by simp at e
  | n, w :: vs, 0, v, h, e => by
    rw [Fits] at h
    simp at e
    rw [← e]
    exact h.1
  | n, w :: vs, i + 1, v, h, e => by
    rw [Fits] at h
    exact Fits.get (i := i) h.2 (by simpa using e)
def spSame : Nat → SpD
  | 0 => fun _ _ _ _ => False
  | n + 1 => fun ds M Q E => ∃ f d v, ds = [f, d] ∧ Den M f v ∧ Den M d v ∧ Fit n v ∧ ∀ M', MExt M M' → Q (.bl true) M'
theorem rng_mem : ∀ (n : Nat) (lo : Int) (d : D), d ∈ rng lo n → ∃ k : Nat, k < n ∧ d = .int (lo + k)
  | 0, lo, d, h => by simp [rng] at h
  | n + 1, lo, d, h => by
    rcases List.mem_cons.mp (show d ∈ D.int lo :: rng (lo + 1) n from h) with e | h
    · exact ⟨0, by omega, by rw [e]; simp⟩
    · obtain ⟨k, h1, h2⟩ := rng_mem n (lo + 1) d h
      exact ⟨k + 1, by omega, by rw [h2]; congr 1; omega⟩
theorem bls_true {α : Type} : ∀ l : List α, blsD (l.map fun _ => D.bl true) = some (l.map fun _ => true)
  | [] => rfl
  | a :: l => by
    show (blsD (l.map fun _ => D.bl true)).map (true :: ·) = _
    rw [bls_true l]
    rfl
theorem all_true {α : Type} (l : List α) : (l.map fun _ => true).all (fun b => b) = true := by simp
theorem same_tup {n : Nat}  {fs ds : List D} {vs : List PV} {M : Mp} {Q : QK} {E : QX}  (h1 : Dens M fs vs) (h2 : Dens M ds vs) (hz : vs.length ≤ LTX) (ht : Fits n vs) (hq : ∀ M', MExt M M' → Q (.bl true) M') :
    qRet (qAndV (qOp rEqD (qCB rLen (qaCons (qVar 0) qaNil)) (qCB rLen (qaCons (qVar 1) qaNil))) (qCB rAll (qaCons (qLc (qRng1 (qaCons (qCB rLen (qaCons (qVar 1) qaNil)) qaNil)) (qgName 2) qYes (qCall (spSame (n + 1)) (qaCons (qOp DL.rIx (qVar 0) (qVar 2)) (qaCons (qOp DL.rIx (qVar 1) (qVar 2)) qaNil))) [2]) qaNil))) (endsD Q E) [some (.tup fs), some (.tup ds), none] M := by
  conv => whnf
  skip
  skip
  rw [h1.length, h2.length]
  rw [decide_eq_true rfl]
  conv => whnf
  skip
  rw [h2.length]
  have hLT : LTX = 1000000 := rfl
  refine ⟨by omega, by omega, ?_⟩
  intro p hp
  refine lcL_map (fun _ => .bl true) hp trivial (by rw [rng_length]; exact lt_size (by simpa using hz)) (fun x hx M1 K k1 hK => ?_) fun M' k' hM' => ?_
  · obtain ⟨k, hk, rfl⟩ := rng_mem _ _ _ hx
    have hk : k < vs.length := by simpa using hk
    obtain ⟨x, v, a1, a2, a3⟩ := h1.get hk
    obtain ⟨y, v', b1, b2, b3⟩ := h2.get hk
    rw [a2] at b2
    cases b2
    conv => whnf
    rw [show (0 : Int) + k = k by omega]
    skip
    rw [atN, a1]
    conv => whnf
    skip
    rw [atN, b1]
    conv => whnf
    exact ⟨x, y, v, rfl, a3.ext k1, b3.ext k1, ht.get a2, hK⟩
  · conv => whnf
    rw [hM']
    conv => whnf
    rw [bls_true]
    conv => whnf
    rw [all_true]
    exact hq M' k'
theorem same_lst {n : Nat} {a b : PySem.Addr} {fs ds : List D} {vs : List PV} {M : Mp} {Q : QK} {E : QX} (ha : M a = some (.lst fs)) (hb : M b = some (.lst ds)) (h1 : Dens M fs vs) (h2 : Dens M ds vs) (hz : vs.length ≤ LTX) (ht : Fits n vs) (hq : ∀ M', MExt M M' → Q (.bl true) M') :
    qRet (qAndV (qOp rEqD (qCB rLen (qaCons (qVar 0) qaNil)) (qCB rLen (qaCons (qVar 1) qaNil))) (qCB rAll (qaCons (qLc (qRng1 (qaCons (qCB rLen (qaCons (qVar 1) qaNil)) qaNil)) (qgName 2) qYes (qCall (spSame (n + 1)) (qaCons (qOp DL.rIx (qVar 0) (qVar 2)) (qaCons (qOp DL.rIx (qVar 1) (qVar 2)) qaNil))) [2]) qaNil))) (endsD Q E) [some (.ref a), some (.ref b), none] M := by
  conv => whnf
  rw [ha]
  conv => whnf
  rw [hb]
  conv => whnf
  rw [h1.length, h2.length]
  rw [decide_eq_true rfl]
  conv => whnf
  rw [hb]
  conv => whnf
  rw [h2.length]
  have hLT : LTX = 1000000 := rfl
  refine ⟨by omega, by omega, ?_⟩
  intro p hp
  refine lcL_map (fun _ => .bl true) hp trivial (by rw [rng_length]; exact lt_size (by simpa using hz)) (fun x hx M1 K k1 hK => ?_) fun M' k' hM' => ?_
  · obtain ⟨k, hk, rfl⟩ := rng_mem _ _ _ hx
    have hk : k < vs.length := by simpa using hk
    obtain ⟨x, v, a1, a2, a3⟩ := h1.get hk
    obtain ⟨y, v', b1, b2, b3⟩ := h2.get hk
    rw [a2] at b2
    cases b2
    conv => whnf
    rw [show (0 : Int) + k = k by omega]
    rw [k1 _ _ ha]
    conv => whnf
    rw [atN, a1]
    conv => whnf
    rw [k1 _ _ hb]
    conv => whnf
    rw [atN, b1]
    conv => whnf
    exact ⟨x, y, v, rfl, a3.ext k1, b3.ext k1, ht.get a2, hK⟩
  · conv => whnf
    rw [hM']
    conv => whnf
    rw [bls_true]
    conv => whnf
    rw [all_true]
    exact hq M' k'
theorem dec_str (x : List Nat) : decide (x = x) = true := decide_eq_true rfl
theorem same_rd (n : Nat) (ds : List D) (M : Mp) (Q : QK) (E : QX) (h : spSame (n + 1) ds M Q E) : rd__law_same (spSame n) (endsD Q E) (startD N__law_same ds) M := by
  obtain ⟨f, d, v, rfl, h1, h2, h3, hq⟩ := h
  unfold rd__law_same
  cases v with
  | tup vs =>
    cases n with
    | zero => rw [Fit] at h3; exact h3.elim
    | succ n =>
      rw [Fit] at h3
      rw [Den] at h1 h2
      obtain ⟨fs, rfl, h1⟩ := h1
      obtain ⟨ds, rfl, h2⟩ := h2
      conv => whnf
      exact same_tup h1 h2 h3.1 h3.2 hq
  | lst vs =>
    cases n with
    | zero => rw [Fit] at h3; exact h3.elim
    | succ n =>
      rw [Fit] at h3
      rw [Den] at h1 h2
      obtain ⟨a, fs, rfl, ha, h1⟩ := h1
      obtain ⟨b, ds, rfl, hb, h2⟩ := h2
      have ta : tyD M (.ref a) = some "list" := by show tyO (M a) = _; rw [ha]; rfl
      have tb : tyD M (.ref b) = some "list" := by show tyO (M b) = _; rw [hb]; rfl
      conv => whnf
      rw [tb]
      conv => whnf
      rw [tb]
      conv => whnf
      rw [ta]
      conv => whnf
      rw [tb]
      conv => whnf
      exact same_lst ha hb h1 h2 h3.1 h3.2 hq
  | non =>
    rw [Den] at h1 h2
    subst h1 h2
    conv => whnf
    exact hq M (MExt.refl M)
  | int i =>
    rw [Den] at h1 h2
    subst h1 h2
    conv => whnf
    rw [decide_eq_true rfl]
    exact hq M (MExt.refl M)
  | str x =>
    rw [Den] at h1 h2
    subst h1 h2
    conv => whnf
    rw [dec_str]
    exact hq M (MExt.refl M)
theorem ok_same {P : PySem.Program} {w : PySem.World} {K : PySem.W.Frag} {mg : PySem.Str → Option PySem.Value} {base : PySem.Heap} {st : PySem.Stmt} (d : DefAt K mg "_law_same" st ["found", "due"])
    (step : ∀ {k : Nat} {sp sp_self : SpD}, OkFn P w K mg base TT k "_law_same" ["found", "due"] sp_self → 1 ≤ k → (∀ ds M Q E, sp ds M Q E → ds.length = 2) → (∀ ds M Q E, sp ds M Q E → rd__law_same sp_self (endsD Q E) (startD N__law_same ds) M) → OkFn P w K mg base TT (k + 1) "_law_same" ["found", "due"] sp) :
    ∀ n, OkFn P w K mg base TT (n + 1) "_law_same" ["found", "due"] (spSame n)
  | 0 => okfn_none d
  | n + 1 => step (ok_same d step n) (by omega) (fun ds M Q E ⟨f, d, v, e, _⟩ => by rw [e]; rfl) (same_rd n)
section
variable {P : Program} {w : World} {K : PySem.W.Frag} {mg : Str → Option Value} {base : Heap}
def sp__law_same : SpD := spSame 4
theorem o__law_same (g : Gb P K mg) : OkFn P w K mg base TT 5 "_law_same" ["found", "due"] sp__law_same := ok_same g.f__law_same (fun self hk len hsp => st__law_same g self hk len hsp) 4
/-! ### _law_signs -/
abbrev N__law_signs : List Str := []
theorem sc__law_signs : FnScope N__law_signs [] (defScope s__law_signs) := ⟨rfl, rfl, rfl, by decide +kernel, rfl, by decide +kernel, by decide +kernel⟩
def rd__law_signs : QS := (qRet (qC (.str (tx "abcdefghijklmnopqrstuvwxyzABCDEFGHIJKLMNOPQRSTUVWXYZ0123456789+-*/=<>!?_"))))
def sp__law_signs : SpD := spOf 0 N__law_signs rd__law_signs
theorem o__law_signs (g : Gb P K mg) : OkFn P w K mg base TT 2 "_law_signs" [] sp__law_signs := okfn_of (k := 1) g.f__law_signs sc__law_signs rfl fun f cdv A outer s H E hr tk => by
  unfold rd__law_signs
  exact (ss_one (s_ret q_str))
/-! ### _law_sign -/
abbrev N__law_sign : List Str := ["flow", "others", "every"]
theorem sc__law_sign : FnScope N__law_sign ["flow"] (defScope s__law_sign) := ⟨rfl, rfl, rfl, by decide +kernel, rfl, by decide +kernel, by decide +kernel⟩
def rd__law_sign : QS := (qSeq (qIfS (qTest (qOp rGt (qCall sp__law_draw (qaCons (qVar 0) (qaCons (qC (.int 3)) qaNil))) (qC (.int 0)))) (qRet (qOp rIx (qC (.str (tx "()'\"\"; \n-05a\n\" "))) (qCall sp__law_draw (qaCons (qVar 0) (qaCons (qC (.int 15)) qaNil))))) qNext)
    (qSeq (qSet 1 (qC (.str (tx " \"#$&'(),.:;\x40[\\]^`{|}~\n"))))
    (qSeq (qSet 2 (qOp rAdd (qCall0 sp__law_signs) (qVar 1)))
    (qRet (qOp rIx (qVar 2) (qCall sp__law_draw (qaCons (qVar 0) (qaCons (qCB rLen (qaCons (qVar 2) qaNil)) qaNil))))))))
def sp__law_sign : SpD := spOf 1 N__law_sign rd__law_sign
theorem o__law_sign (g : Gb P K mg) : OkFn P w K mg base TT 6 "_law_sign" ["flow"] sp__law_sign := okfn_of (k := 5) g.f__law_sign sc__law_sign rfl fun f cdv A outer s H E hr tk => by
  unfold rd__law_sign
  exact (ss_cons (s_if (t_cmp oq_gt (q_callF (o__law_draw g) (hr.mono (by omega)) tk (a_cons (qv 0) (a_cons q_int a_nil))) q_int) (ss_one (s_ret (q_ix q_str (q_callF (o__law_draw g) (hr.mono (by omega)) tk (a_cons (qv 0) (a_cons q_int a_nil)))))) ss_nil)
    (ss_cons (s_set (i := 1) sc__law_sign.nd rfl (by first | exact .inl rfl | exact .inr rfl) q_str)
    (ss_cons (s_set (i := 2) sc__law_sign.nd rfl (by first | exact .inl rfl | exact .inr rfl) (q_op oq_add (q_callF0 (o__law_signs g) (hr.mono (by omega)) tk) (qv 1)))
    (ss_one (s_ret (q_ix (qv 2) (q_callF (o__law_draw g) (hr.mono (by omega)) tk (a_cons (qv 0) (a_cons (q_callB c_len rfl g.n_len PyProof.Rows.Boot.«len» (a_cons (qv 2) a_nil)) a_nil)))))))))
/-! ### _law_number -/
abbrev N__law_number : List Str := ["word", "figures"]
theorem sc__law_number : FnScope N__law_number ["word"] (defScope s__law_number) := ⟨rfl, rfl, rfl, by decide +kernel, rfl, by decide +kernel, by decide +kernel⟩
def rd__law_number : QS := (qSeq (qSet 1 (qIf (qTest (qOp rEqD (qSl (qVar 0) qoNone (qoSome (qC (.int 1)))) (qC (.str (tx "-"))))) (qSl (qVar 0) (qoSome (qC (.int 1))) qoNone) (qVar 0)))
    (qSeq (qIfS (qOr (qNot (qTest (qBM0 "str" rIsdigit (qVar 1)))) (qOr (qTest (qOp rGt (qCB rLen (qaCons (qVar 1) qaNil)) (qC (.int 18)))) (qAnd (qTest (qOp rEqD (qOp rIx (qVar 1) (qC (.int 0))) (qC (.str (tx "0"))))) (qTest (qOp rNeD (qVar 0) (qC (.str (tx "0")))))))) (qRet (qC .non)) qNext)
    (qSeq (qIfS (qOr (qTest (qOp rLt (qCB rInt1 (qaCons (qVar 0) qaNil)) (qUn rNeg (qOp rPow (qC (.int 2)) (qC (.int 59)))))) (qTest (qOp rGe (qCB rInt1 (qaCons (qVar 0) qaNil)) (qOp rPow (qC (.int 2)) (qC (.int 59)))))) (qRet (qC .non)) qNext)
    (qRet (qCB rInt1 (qaCons (qVar 0) qaNil))))))
def sp__law_number : SpD := spOf 1 N__law_number rd__law_number
theorem o__law_number (g : Gb P K mg) : OkFn P w K mg base TT 2 "_law_number" ["word"] sp__law_number := okfn_of (k := 1) g.f__law_number sc__law_number rfl fun f cdv A outer s H E hr tk => by
  unfold rd__law_number
  exact (ss_cons (s_set (i := 1) sc__law_number.nd rfl (by first | exact .inl rfl | exact .inr rfl) (q_if (t_cmp oq_eq (q_slice (qv 0) o_none (o_some q_int)) q_str) (q_slice (qv 0) (o_some q_int) o_none) (qv 0)))
    (ss_cons (s_if (t_w (w_or (t_not (t_val (q_bm0 PySem.F.plainAttrs_str PySem.F.slot_str_isdigit PySem.F.type_str_isdigit m_isdigit (qv 1)))) (w_or (t_cmp oq_gt (q_callB c_len rfl g.n_len PyProof.Rows.Boot.«len» (a_cons (qv 1) a_nil)) q_int) (w_or1 (t_w (w_and (t_cmp oq_eq (q_ix (qv 1) q_int) q_str) (w_and1 (t_cmp oq_ne (qv 0) q_str)))))))) (ss_one (s_ret q_non)) ss_nil)
    (ss_cons (s_if (t_w (w_or (t_cmp oq_lt (q_callTy c_int rfl g.n_int PyProof.Rows.Boot.«int» (a_cons (qv 0) a_nil)) (q_un oq_neg (q_op oq_pow q_int q_int))) (w_or1 (t_cmp oq_ge (q_callTy c_int rfl g.n_int PyProof.Rows.Boot.«int» (a_cons (qv 0) a_nil)) (q_op oq_pow q_int q_int))))) (ss_one (s_ret q_non)) ss_nil)
    (ss_one (s_ret (q_callTy c_int rfl g.n_int PyProof.Rows.Boot.«int» (a_cons (qv 0) a_nil)))))))
/-! ### _law_stretch -/
abbrev N__law_stretch : List Str := ["word", "line", "figures", "number"]
theorem sc__law_stretch : FnScope N__law_stretch ["word", "line"] (defScope s__law_stretch) := ⟨rfl, rfl, rfl, by decide +kernel, rfl, by decide +kernel, by decide +kernel⟩
def rd__law_stretch : QS := (qSeq (qSet 2 (qIf (qTest (qOp rEqD (qSl (qVar 0) qoNone (qoSome (qC (.int 1)))) (qC (.str (tx "-"))))) (qSl (qVar 0) (qoSome (qC (.int 1))) qoNone) (qVar 0)))
    (qSeq (qIfS (qTest (qBM0 "str" rIsdigit (qSl (qVar 2) qoNone (qoSome (qC (.int 1)))))) (qSeq (qSet 3 (qCall sp__law_number (qaCons (qVar 0) qaNil)))
    (qRet (qIf (qTest (qOp rIsN (qVar 3) (qC .non))) (qC .non) (qTup (qaCons (qC (.str (tx "int"))) (qaCons (qVar 3) (qaCons (qVar 1) qaNil))))))) qNext)
    (qRet (qIf (qTest (qOp rLe (qCB rLen (qaCons (qVar 0) qaNil)) (qC (.int 20)))) (qTup (qaCons (qC (.str (tx "symbol"))) (qaCons (qVar 0) (qaCons (qVar 1) qaNil)))) (qC .non)))))
def sp__law_stretch : SpD := spOf 2 N__law_stretch rd__law_stretch
theorem o__law_stretch (g : Gb P K mg) : OkFn P w K mg base TT 4 "_law_stretch" ["word", "line"] sp__law_stretch := okfn_of (k := 3) g.f__law_stretch sc__law_stretch rfl fun f cdv A outer s H E hr tk => by
  unfold rd__law_stretch
  exact (ss_cons (s_set (i := 2) sc__law_stretch.nd rfl (by first | exact .inl rfl | exact .inr rfl) (q_if (t_cmp oq_eq (q_slice (qv 0) o_none (o_some q_int)) q_str) (q_slice (qv 0) (o_some q_int) o_none) (qv 0)))
    (ss_cons (s_if (t_val (q_bm0 PySem.F.plainAttrs_str PySem.F.slot_str_isdigit PySem.F.type_str_isdigit m_isdigit (q_slice (qv 2) o_none (o_some q_int)))) (ss_cons (s_set (i := 3) sc__law_stretch.nd rfl (by first | exact .inl rfl | exact .inr rfl) (q_callF (o__law_number g) (hr.mono (by omega)) tk (a_cons (qv 0) a_nil)))
    (ss_one (s_ret (q_if (t_cmp oq_isN (qv 3) q_non) q_non (q_tup (a_cons q_str (a_cons (qv 3) (a_cons (qv 1) a_nil)))))))) ss_nil)
    (ss_one (s_ret (q_if (t_cmp oq_le (q_callB c_len rfl g.n_len PyProof.Rows.Boot.«len» (a_cons (qv 0) a_nil)) q_int) (q_tup (a_cons q_str (a_cons (qv 0) (a_cons (qv 1) a_nil)))) q_non)))))
/-! ### _law_end -/
abbrev N__law_end : List Str := ["text", "at", "k"]
theorem sc__law_end : FnScope N__law_end ["text", "at"] (defScope s__law_end) := ⟨rfl, rfl, rfl, by decide +kernel, rfl, by decide +kernel, by decide +kernel⟩
def rd__law_end : QS := (qSeq (qFor (qRng2 (qaCons (qOp rAdd (qVar 1) (qC (.int 1))) (qaCons (qCB rLen (qaCons (qVar 0) qaNil)) qaNil))) (qgName 2) (qIfS (qTest (qOp (rIn true) (qOp rIx (qVar 0) (qVar 2)) (qCall0 sp__law_signs))) (qRet (qVar 2)) qNext))
    (qRet (qCB rLen (qaCons (qVar 0) qaNil))))
def sp__law_end : SpD := spOf 2 N__law_end rd__law_end
theorem o__law_end (g : Gb P K mg) : OkFn P w K mg base TT 4 "_law_end" ["text", "at"] sp__law_end := okfn_of (k := 3) g.f__law_end sc__law_end rfl fun f cdv A outer s H E hr tk => by
  unfold rd__law_end
  exact (ss_cons (s_for PassesOwn.leaving rfl (i_rng2 rfl g.n_range (a_cons (q_op oq_add (qv 1) q_int) (a_cons (q_callB c_len rfl g.n_len PyProof.Rows.Boot.«len» (a_cons (qv 0) a_nil)) a_nil))) (g_name (i := 2) sc__law_end.nd rfl (by first | exact .inl rfl | exact .inr rfl)) (ss_one (s_if (t_cmp oq_notIn (q_ix (qv 0) (qv 2)) (q_callF0 (o__law_signs g) (hr.mono (by omega)) tk)) (ss_one (s_ret (qv 2))) ss_nil)))
    (ss_one (s_ret (q_callB c_len rfl g.n_len PyProof.Rows.Boot.«len» (a_cons (qv 0) a_nil)))))
/-! ### _law_quote -/
abbrev N__law_quote : List Str := ["text", "at", "here", "k"]
theorem sc__law_quote : FnScope N__law_quote ["text", "at"] (defScope s__law_quote) := ⟨rfl, rfl, rfl, by decide +kernel, rfl, by decide +kernel, by decide +kernel⟩
def rd__law_quote : QS := (qSeq (qSet 2 (qOp rAdd (qVar 1) (qC (.int 1))))
    (qSeq (qFor (qRng1 (qaCons (qCB rLen (qaCons (qVar 0) qaNil)) qaNil)) (qgName 3) (qSeq (qIfS (qOr (qTest (qOp rGe (qVar 2) (qCB rLen (qaCons (qVar 0) qaNil)))) (qTest (qOp rEqD (qOp rIx (qVar 0) (qVar 2)) (qC (.str (tx "\n")))))) (qRet (qC .non)) qNext)
    (qSeq (qIfS (qTest (qOp rEqD (qOp rIx (qVar 0) (qVar 2)) (qC (.str (tx "\""))))) (qSeq (qIfS (qTest (qOp rNeD (qSl (qVar 0) (qoSome (qOp rAdd (qVar 2) (qC (.int 1)))) (qoSome (qOp rAdd (qVar 2) (qC (.int 2))))) (qC (.str (tx "\""))))) (qRet (qVar 2)) qNext)
    (qAug 2 (qC (.int 1)) rIadd)) qNext)
    (qAug 2 (qC (.int 1)) rIadd))))
    (qRet (qC .non))))
def sp__law_quote : SpD := spOf 2 N__law_quote rd__law_quote
theorem o__law_quote (g : Gb P K mg) : OkFn P w K mg base TT 2 "_law_quote" ["text", "at"] sp__law_quote := okfn_of (k := 1) g.f__law_quote sc__law_quote rfl fun f cdv A outer s H E hr tk => by
  unfold rd__law_quote
  exact (ss_cons (s_set (i := 2) sc__law_quote.nd rfl (by first | exact .inl rfl | exact .inr rfl) (q_op oq_add (qv 1) q_int))
    (ss_cons (s_for PassesOwn.leaving rfl (i_rng1 rfl g.n_range (a_cons (q_callB c_len rfl g.n_len PyProof.Rows.Boot.«len» (a_cons (qv 0) a_nil)) a_nil)) (g_name (i := 3) sc__law_quote.nd rfl (by first | exact .inl rfl | exact .inr rfl)) (ss_cons (s_if (t_w (w_or (t_cmp oq_ge (qv 2) (q_callB c_len rfl g.n_len PyProof.Rows.Boot.«len» (a_cons (qv 0) a_nil))) (w_or1 (t_cmp oq_eq (q_ix (qv 0) (qv 2)) q_str)))) (ss_one (s_ret q_non)) ss_nil)
    (ss_cons (s_if (t_cmp oq_eq (q_ix (qv 0) (qv 2)) q_str) (ss_cons (s_if (t_cmp oq_ne (q_slice (qv 0) (o_some (q_op oq_add (qv 2) q_int)) (o_some (q_op oq_add (qv 2) q_int))) q_str) (ss_one (s_ret (qv 2))) ss_nil)
    (ss_one (s_aug (i := 2) sc__law_quote.nd rfl (by first | exact .inl rfl | exact .inr rfl) q_int oq_iadd))) ss_nil)
    (ss_one (s_aug (i := 2) sc__law_quote.nd rfl (by first | exact .inl rfl | exact .inr rfl) q_int oq_iadd)))))
    (ss_one (s_ret q_non))))
/-! ### _law_cut -/
abbrev N__law_cut : List Str := ["text", "found", "at", "line", "k", "sign", "end", "word", "close"]
theorem sc__law_cut : FnScope N__law_cut ["text"] (defScope s__law_cut) := ⟨rfl, rfl, rfl, by decide +kernel, rfl, by decide +kernel, by decide +kernel⟩
def rd__law_cut : QS := (qSeq (qSet 1 (qLst qaNil))
    (qSeq (qSet 2 (qC (.int 0)))
    (qSeq (qSet 3 (qC (.int 1)))
    (qSeq (qFor (qRng1 (qaCons (qCB rLen (qaCons (qVar 0) qaNil)) qaNil)) (qgName 4) (qSeq (qIfS (qTest (qOp rGe (qVar 2) (qCB rLen (qaCons (qVar 0) qaNil)))) qBreak qNext)
    (qSeq (qSet 5 (qOp rIx (qVar 0) (qVar 2)))
    (qSeq (qSet 6 (qOp rAdd (qVar 2) (qC (.int 1))))
    (qSeq (qSet 7 (qC .non))
    (qSeq (qIfS (qTest (qOp rEqD (qVar 5) (qC (.str (tx "\n"))))) (qAug 3 (qC (.int 1)) rIadd) (qIfS (qTest (qOp rEqD (qVar 5) (qC (.str (tx ";"))))) (qSeq (qSet 6 (qBM "str" rFind3 (qVar 0) (qaCons (qC (.str (tx "\n"))) (qaCons (qVar 2) qaNil))))
    (qSet 6 (qIf (qTest (qOp rLt (qVar 6) (qC (.int 0)))) (qCB rLen (qaCons (qVar 0) qaNil)) (qVar 6)))) (qIfS (qTest (qOp rNeD (qVar 5) (qC (.str (tx " "))))) (qSeq (qIfS (qTest (qOp (rIn false) (qVar 5) (qC (.str (tx "()'"))))) (qSet 7 (qTup (qaCons (qC (.str (tx "mark"))) (qaCons (qVar 5) (qaCons (qVar 3) qaNil))))) (qIfS (qTest (qOp rEqD (qVar 5) (qC (.str (tx "\""))))) (qSeq (qSet 8 (qCall sp__law_quote (qaCons (qVar 0) (qaCons (qVar 2) qaNil))))
    (qIfS (qTest (qOp rIsNotN (qVar 8) (qC .non))) (qSeq (qSet 6 (qOp rAdd (qVar 8) (qC (.int 1))))
    (qSet 7 (qTup (qaCons (qC (.str (tx "text"))) (qaCons (qRepl (tx "\"\"") (tx "\"") (qSl (qVar 0) (qoSome (qOp rAdd (qVar 2) (qC (.int 1)))) (qoSome (qVar 8)))) (qaCons (qVar 3) qaNil)))))) qNext)) (qIfS (qTest (qOp (rIn false) (qVar 5) (qCall0 sp__law_signs))) (qSeq (qSet 6 (qCall sp__law_end (qaCons (qVar 0) (qaCons (qVar 2) qaNil))))
    (qSet 7 (qCall sp__law_stretch (qaCons (qSl (qVar 0) (qoSome (qVar 2)) (qoSome (qVar 6))) (qaCons (qVar 3) qaNil))))) qNext)))
    (qSeq (qIfS (qTest (qOp rIsN (qVar 7) (qC .non))) (qRet (qTup (qaCons (qC (.str (tx "bad"))) (qaCons (qVar 3) qaNil)))) qNext)
    (qDrop (qBM "list" rAppend (qVar 1) (qaCons (qVar 7) qaNil))))) qNext)))
    (qSet 2 (qVar 6))))))))
    (qRet (qTup (qaCons (qC (.str (tx "told"))) (qaCons (qVar 1) qaNil))))))))
def sp__law_cut : SpD := spOf 1 N__law_cut rd__law_cut
theorem o__law_cut (g : Gb P K mg) : OkFn P w K mg base TT 6 "_law_cut" ["text"] sp__law_cut := okfn_of (k := 5) g.f__law_cut sc__law_cut rfl fun f cdv A outer s H E hr tk => by
  unfold rd__law_cut
  exact (ss_cons (s_set (i := 1) sc__law_cut.nd rfl (by first | exact .inl rfl | exact .inr rfl) (q_lst a_nil))
    (ss_cons (s_set (i := 2) sc__law_cut.nd rfl (by first | exact .inl rfl | exact .inr rfl) q_int)
    (ss_cons (s_set (i := 3) sc__law_cut.nd rfl (by first | exact .inl rfl | exact .inr rfl) q_int)
    (ss_cons (s_for PassesOwn.leaving rfl (i_rng1 rfl g.n_range (a_cons (q_callB c_len rfl g.n_len PyProof.Rows.Boot.«len» (a_cons (qv 0) a_nil)) a_nil)) (g_name (i := 4) sc__law_cut.nd rfl (by first | exact .inl rfl | exact .inr rfl)) (ss_cons (s_if (t_cmp oq_ge (qv 2) (q_callB c_len rfl g.n_len PyProof.Rows.Boot.«len» (a_cons (qv 0) a_nil))) (ss_one s_break) ss_nil)
    (ss_cons (s_set (i := 5) sc__law_cut.nd rfl (by first | exact .inl rfl | exact .inr rfl) (q_ix (qv 0) (qv 2)))
    (ss_cons (s_set (i := 6) sc__law_cut.nd rfl (by first | exact .inl rfl | exact .inr rfl) (q_op oq_add (qv 2) q_int))
    (ss_cons (s_set (i := 7) sc__law_cut.nd rfl (by first | exact .inl rfl | exact .inr rfl) q_non)
    (ss_cons (s_if (t_cmp oq_eq (qv 5) q_str) (ss_one (s_aug (i := 3) sc__law_cut.nd rfl (by first | exact .inl rfl | exact .inr rfl) q_int oq_iadd)) (ss_one (s_if (t_cmp oq_eq (qv 5) q_str) (ss_cons (s_set (i := 6) sc__law_cut.nd rfl (by first | exact .inl rfl | exact .inr rfl) (q_bm PySem.F.plainAttrs_str PySem.F.slot_str_find PySem.F.type_str_find m_find3 (qv 0) (a_cons q_str (a_cons (qv 2) a_nil))))
    (ss_one (s_set (i := 6) sc__law_cut.nd rfl (by first | exact .inl rfl | exact .inr rfl) (q_if (t_cmp oq_lt (qv 6) q_int) (q_callB c_len rfl g.n_len PyProof.Rows.Boot.«len» (a_cons (qv 0) a_nil)) (qv 6))))) (ss_one (s_if (t_cmp oq_ne (qv 5) q_str) (ss_cons (s_if (t_cmp oq_in (qv 5) q_str) (ss_one (s_set (i := 7) sc__law_cut.nd rfl (by first | exact .inl rfl | exact .inr rfl) (q_tup (a_cons q_str (a_cons (qv 5) (a_cons (qv 3) a_nil)))))) (ss_one (s_if (t_cmp oq_eq (qv 5) q_str) (ss_cons (s_set (i := 8) sc__law_cut.nd rfl (by first | exact .inl rfl | exact .inr rfl) (q_callF (o__law_quote g) (hr.mono (by omega)) tk (a_cons (qv 0) (a_cons (qv 2) a_nil))))
    (ss_one (s_if (t_cmp oq_isNotN (qv 8) q_non) (ss_cons (s_set (i := 6) sc__law_cut.nd rfl (by first | exact .inl rfl | exact .inr rfl) (q_op oq_add (qv 8) q_int))
    (ss_one (s_set (i := 7) sc__law_cut.nd rfl (by first | exact .inl rfl | exact .inr rfl) (q_tup (a_cons q_str (a_cons (q_replC (q_slice (qv 0) (o_some (q_op oq_add (qv 2) q_int)) (o_some (qv 8))) g.hT) (a_cons (qv 3) a_nil))))))) ss_nil))) (ss_one (s_if (t_cmp oq_in (qv 5) (q_callF0 (o__law_signs g) (hr.mono (by omega)) tk)) (ss_cons (s_set (i := 6) sc__law_cut.nd rfl (by first | exact .inl rfl | exact .inr rfl) (q_callF (o__law_end g) (hr.mono (by omega)) tk (a_cons (qv 0) (a_cons (qv 2) a_nil))))
    (ss_one (s_set (i := 7) sc__law_cut.nd rfl (by first | exact .inl rfl | exact .inr rfl) (q_callF (o__law_stretch g) (hr.mono (by omega)) tk (a_cons (q_slice (qv 0) (o_some (qv 2)) (o_some (qv 6))) (a_cons (qv 3) a_nil)))))) ss_nil)))))
    (ss_cons (s_if (t_cmp oq_isN (qv 7) q_non) (ss_one (s_ret (q_tup (a_cons q_str (a_cons (qv 3) a_nil))))) ss_nil)
    (ss_one (s_expr (q_bm PySem.F.plainAttrs_list PySem.F.slot_list_append PySem.F.type_list_append m_append (qv 1) (a_cons (qv 7) a_nil)))))) ss_nil)))))
    (ss_one (s_set (i := 2) sc__law_cut.nd rfl (by first | exact .inl rfl | exact .inr rfl) (qv 6)))))))))
    (ss_one (s_ret (q_tup (a_cons q_str (a_cons (qv 1) a_nil)))))))))
/-! ### _law_inner -/
abbrev N__law_inner : List Str := ["flow", "inner", "k"]
theorem sc__law_inner : FnScope N__law_inner ["flow"] (defScope s__law_inner) := ⟨rfl, rfl, rfl, by decide +kernel, rfl, by decide +kernel, by decide +kernel⟩
def rd__law_inner : QS := (qSeq (qSet 1 (qC (.str (tx ""))))
    (qSeq (qFor (qRng1 (qaCons (qCall sp__law_draw (qaCons (qVar 0) (qaCons (qC (.int 9)) qaNil))) qaNil)) (qgName 2) (qSet 1 (qOp rAdd (qVar 1) (qOp rIx (qC (.str (tx "\"; (')~a ,"))) (qCall sp__law_draw (qaCons (qVar 0) (qaCons (qC (.int 10)) qaNil)))))))
    (qRet (qVar 1))))
def sp__law_inner : SpD := spOf 1 N__law_inner rd__law_inner
theorem o__law_inner (g : Gb P K mg) : OkFn P w K mg base TT 6 "_law_inner" ["flow"] sp__law_inner := okfn_of (k := 5) g.f__law_inner sc__law_inner rfl fun f cdv A outer s H E hr tk => by
  unfold rd__law_inner
  exact (ss_cons (s_set (i := 1) sc__law_inner.nd rfl (by first | exact .inl rfl | exact .inr rfl) q_str)
    (ss_cons (s_for PassesOwn.leaving rfl (i_rng1 rfl g.n_range (a_cons (q_callF (o__law_draw g) (hr.mono (by omega)) tk (a_cons (qv 0) (a_cons q_int a_nil))) a_nil)) (g_name (i := 2) sc__law_inner.nd rfl (by first | exact .inl rfl | exact .inr rfl)) (ss_one (s_set (i := 1) sc__law_inner.nd rfl (by first | exact .inl rfl | exact .inr rfl) (q_op oq_add (qv 1) (q_ix q_str (q_callF (o__law_draw g) (hr.mono (by omega)) tk (a_cons (qv 0) (a_cons q_int a_nil))))))))
    (ss_one (s_ret (qv 1)))))
/-! ### _law_symbol -/
abbrev N__law_symbol : List Str := ["flow", "word", "k"]
theorem sc__law_symbol : FnScope N__law_symbol ["flow"] (defScope s__law_symbol) := ⟨rfl, rfl, rfl, by decide +kernel, rfl, by decide +kernel, by decide +kernel⟩
def rd__law_symbol : QS := (qSeq (qSet 1 (qOp rIx (qC (.str (tx "abzAZ+*/=<>!?_-"))) (qCall sp__law_draw (qaCons (qVar 0) (qaCons (qC (.int 15)) qaNil)))))
    (qSeq (qFor (qRng1 (qaCons (qOp rIx (qLst (qaCons (qC (.int 0)) (qaCons (qC (.int 1)) (qaCons (qC (.int 2)) (qaCons (qC (.int 5)) (qaCons (qC (.int 19)) (qaCons (qC (.int 18)) qaNil))))))) (qCall sp__law_draw (qaCons (qVar 0) (qaCons (qC (.int 6)) qaNil)))) qaNil)) (qgName 2) (qSet 1 (qOp rAdd (qVar 1) (qOp rIx (qCall0 sp__law_signs) (qCall sp__law_draw (qaCons (qVar 0) (qaCons (qC (.int 72)) qaNil)))))))
    (qSeq (qIfS (qAnd (qTest (qOp rEqD (qOp rIx (qVar 1) (qC (.int 0))) (qC (.str (tx "-"))))) (qTest (qBM0 "str" rIsdigit (qSl (qVar 1) (qoSome (qC (.int 1))) (qoSome (qC (.int 2))))))) (qSet 1 (qOp rAdd (qC (.str (tx "-a"))) (qSl (qVar 1) (qoSome (qC (.int 2))) qoNone))) qNext)
    (qRet (qVar 1)))))
def sp__law_symbol : SpD := spOf 1 N__law_symbol rd__law_symbol
theorem o__law_symbol (g : Gb P K mg) : OkFn P w K mg base TT 6 "_law_symbol" ["flow"] sp__law_symbol := okfn_of (k := 5) g.f__law_symbol sc__law_symbol rfl fun f cdv A outer s H E hr tk => by
  unfold rd__law_symbol
  exact (ss_cons (s_set (i := 1) sc__law_symbol.nd rfl (by first | exact .inl rfl | exact .inr rfl) (q_ix q_str (q_callF (o__law_draw g) (hr.mono (by omega)) tk (a_cons (qv 0) (a_cons q_int a_nil)))))
    (ss_cons (s_for PassesOwn.leaving rfl (i_rng1 rfl g.n_range (a_cons (q_ix (q_lst (a_cons q_int (a_cons q_int (a_cons q_int (a_cons q_int (a_cons q_int (a_cons q_int a_nil))))))) (q_callF (o__law_draw g) (hr.mono (by omega)) tk (a_cons (qv 0) (a_cons q_int a_nil)))) a_nil)) (g_name (i := 2) sc__law_symbol.nd rfl (by first | exact .inl rfl | exact .inr rfl)) (ss_one (s_set (i := 1) sc__law_symbol.nd rfl (by first | exact .inl rfl | exact .inr rfl) (q_op oq_add (qv 1) (q_ix (q_callF0 (o__law_signs g) (hr.mono (by omega)) tk) (q_callF (o__law_draw g) (hr.mono (by omega)) tk (a_cons (qv 0) (a_cons q_int a_nil))))))))
    (ss_cons (s_if (t_w (w_and (t_cmp oq_eq (q_ix (qv 1) q_int) q_str) (w_and1 (t_val (q_bm0 PySem.F.plainAttrs_str PySem.F.slot_str_isdigit PySem.F.type_str_isdigit m_isdigit (q_slice (qv 1) (o_some q_int) (o_some q_int))))))) (ss_one (s_set (i := 1) sc__law_symbol.nd rfl (by first | exact .inl rfl | exact .inr rfl) (q_op oq_add q_str (q_slice (qv 1) (o_some q_int) o_none)))) ss_nil)
    (ss_one (s_ret (qv 1))))))
/-! ### _law_piece -/
abbrev N__law_piece : List Str := ["flow", "kind", "word", "sign", "inner", "number"]
theorem sc__law_piece : FnScope N__law_piece ["flow"] (defScope s__law_piece) := ⟨rfl, rfl, rfl, by decide +kernel, rfl, by decide +kernel, by decide +kernel⟩
def rd__law_piece : QS := (qSeq (qSet 1 (qCall sp__law_draw (qaCons (qVar 0) (qaCons (qC (.int 5)) qaNil))))
    (qSeq (qIfS (qTest (qOp rEqD (qVar 1) (qC (.int 0)))) (qSeq (qSet 3 (qOp rIx (qC (.str (tx "()'"))) (qCall sp__law_draw (qaCons (qVar 0) (qaCons (qC (.int 3)) qaNil)))))
    (qRet (qTup (qaCons (qVar 3) (qaCons (qC (.str (tx "mark"))) (qaCons (qVar 3) qaNil)))))) qNext)
    (qSeq (qIfS (qTest (qOp rEqD (qVar 1) (qC (.int 1)))) (qSeq (qSet 4 (qCall sp__law_inner (qaCons (qVar 0) qaNil)))
    (qRet (qTup (qaCons (qOp rAdd (qOp rAdd (qC (.str (tx "\""))) (qRepl (tx "\"") (tx "\"\"") (qVar 4))) (qC (.str (tx "\"")))) (qaCons (qC (.str (tx "text"))) (qaCons (qVar 4) qaNil)))))) qNext)
    (qSeq (qIfS (qTest (qOp rLt (qVar 1) (qC (.int 4)))) (qSeq (qSet 5 (qCall sp__law_draw (qaCons (qVar 0) (qaCons (qOp rIx (qLst (qaCons (qC (.int 2)) (qaCons (qC (.int 30)) (qaCons (qOp rPow (qC (.int 2)) (qC (.int 60))) (qaCons (qOp rPow (qC (.int 2)) (qC (.int 60))) qaNil))))) (qCall sp__law_draw (qaCons (qVar 0) (qaCons (qC (.int 4)) qaNil)))) qaNil))))
    (qSeq (qSet 5 (qOp rIx (qLst (qaCons (qVar 5) (qaCons (qOp rSub (qVar 5) (qOp rPow (qC (.int 2)) (qC (.int 59)))) (qaCons (qUn rNeg (qVar 5)) qaNil)))) (qCall sp__law_draw (qaCons (qVar 0) (qaCons (qC (.int 3)) qaNil)))))
    (qSeq (qIfS (qOr (qTest (qOp rLt (qVar 5) (qUn rNeg (qOp rPow (qC (.int 2)) (qC (.int 59)))))) (qTest (qOp rGe (qVar 5) (qOp rPow (qC (.int 2)) (qC (.int 59)))))) (qSet 5 (qOp rIx (qLst (qaCons (qOp rSub (qOp rPow (qC (.int 2)) (qC (.int 59))) (qC (.int 1))) (qaCons (qUn rNeg (qOp rPow (qC (.int 2)) (qC (.int 59)))) qaNil))) (qOp rMod (qVar 5) (qC (.int 2))))) qNext)
    (qRet (qTup (qaCons (qCB rStr1 (qaCons (qVar 5) qaNil)) (qaCons (qC (.str (tx "int"))) (qaCons (qVar 5) qaNil)))))))) qNext)
    (qSeq (qSet 2 (qCall sp__law_symbol (qaCons (qVar 0) qaNil)))
    (qRet (qTup (qaCons (qVar 2) (qaCons (qC (.str (tx "symbol"))) (qaCons (qVar 2) qaNil))))))))))
def sp__law_piece : SpD := spOf 1 N__law_piece rd__law_piece
theorem o__law_piece (g : Gb P K mg) : OkFn P w K mg base TT 8 "_law_piece" ["flow"] sp__law_piece := okfn_of (k := 7) g.f__law_piece sc__law_piece rfl fun f cdv A outer s H E hr tk => by
  unfold rd__law_piece
  exact (ss_cons (s_set (i := 1) sc__law_piece.nd rfl (by first | exact .inl rfl | exact .inr rfl) (q_callF (o__law_draw g) (hr.mono (by omega)) tk (a_cons (qv 0) (a_cons q_int a_nil))))
    (ss_cons (s_if (t_cmp oq_eq (qv 1) q_int) (ss_cons (s_set (i := 3) sc__law_piece.nd rfl (by first | exact .inl rfl | exact .inr rfl) (q_ix q_str (q_callF (o__law_draw g) (hr.mono (by omega)) tk (a_cons (qv 0) (a_cons q_int a_nil)))))
    (ss_one (s_ret (q_tup (a_cons (qv 3) (a_cons q_str (a_cons (qv 3) a_nil))))))) ss_nil)
    (ss_cons (s_if (t_cmp oq_eq (qv 1) q_int) (ss_cons (s_set (i := 4) sc__law_piece.nd rfl (by first | exact .inl rfl | exact .inr rfl) (q_callF (o__law_inner g) (hr.mono (by omega)) tk (a_cons (qv 0) a_nil)))
    (ss_one (s_ret (q_tup (a_cons (q_op oq_add (q_op oq_add q_str (q_replC (qv 4) g.hT)) q_str) (a_cons q_str (a_cons (qv 4) a_nil))))))) ss_nil)
    (ss_cons (s_if (t_cmp oq_lt (qv 1) q_int) (ss_cons (s_set (i := 5) sc__law_piece.nd rfl (by first | exact .inl rfl | exact .inr rfl) (q_callF (o__law_draw g) (hr.mono (by omega)) tk (a_cons (qv 0) (a_cons (q_ix (q_lst (a_cons q_int (a_cons q_int (a_cons (q_op oq_pow q_int q_int) (a_cons (q_op oq_pow q_int q_int) a_nil))))) (q_callF (o__law_draw g) (hr.mono (by omega)) tk (a_cons (qv 0) (a_cons q_int a_nil)))) a_nil))))
    (ss_cons (s_set (i := 5) sc__law_piece.nd rfl (by first | exact .inl rfl | exact .inr rfl) (q_ix (q_lst (a_cons (qv 5) (a_cons (q_op oq_sub (qv 5) (q_op oq_pow q_int q_int)) (a_cons (q_un oq_neg (qv 5)) a_nil)))) (q_callF (o__law_draw g) (hr.mono (by omega)) tk (a_cons (qv 0) (a_cons q_int a_nil)))))
    (ss_cons (s_if (t_w (w_or (t_cmp oq_lt (qv 5) (q_un oq_neg (q_op oq_pow q_int q_int))) (w_or1 (t_cmp oq_ge (qv 5) (q_op oq_pow q_int q_int))))) (ss_one (s_set (i := 5) sc__law_piece.nd rfl (by first | exact .inl rfl | exact .inr rfl) (q_ix (q_lst (a_cons (q_op oq_sub (q_op oq_pow q_int q_int) q_int) (a_cons (q_un oq_neg (q_op oq_pow q_int q_int)) a_nil))) (q_op oq_mod (qv 5) q_int)))) ss_nil)
    (ss_one (s_ret (q_tup (a_cons (q_callTy c_str rfl g.n_str PyProof.Rows.Boot.«str» (a_cons (qv 5) a_nil)) (a_cons q_str (a_cons (qv 5) a_nil))))))))) ss_nil)
    (ss_cons (s_set (i := 2) sc__law_piece.nd rfl (by first | exact .inl rfl | exact .inr rfl) (q_callF (o__law_symbol g) (hr.mono (by omega)) tk (a_cons (qv 0) a_nil)))
    (ss_one (s_ret (q_tup (a_cons (qv 2) (a_cons q_str (a_cons (qv 2) a_nil)))))))))))
/-! ### _law_fault -/
abbrev N__law_fault : List Str := ["flow", "kind"]
theorem sc__law_fault : FnScope N__law_fault ["flow"] (defScope s__law_fault) := ⟨rfl, rfl, rfl, by decide +kernel, rfl, by decide +kernel, by decide +kernel⟩
def rd__law_fault : QS := (qSeq (qSet 1 (qCall sp__law_draw (qaCons (qVar 0) (qaCons (qC (.int 9)) qaNil))))
    (qSeq (qIfS (qTest (qOp rEqD (qVar 1) (qC (.int 0)))) (qRet (qOp rIx (qC (.str (tx ",.:#$&\x40[]{|}^`~\\"))) (qCall sp__law_draw (qaCons (qVar 0) (qaCons (qC (.int 16)) qaNil))))) qNext)
    (qSeq (qIfS (qTest (qOp rEqD (qVar 1) (qC (.int 1)))) (qRet (qOp rAdd (qOp rAdd (qC (.str (tx "\""))) (qRepl (tx "\"") (tx "\"\"") (qCall sp__law_inner (qaCons (qVar 0) qaNil)))) (qC (.str (tx "\n"))))) qNext)
    (qSeq (qIfS (qTest (qOp rEqD (qVar 1) (qC (.int 2)))) (qRet (qOp rIx (qLst (qaCons (qC (.str (tx "-0"))) (qaCons (qC (.str (tx "00"))) (qaCons (qC (.str (tx "01"))) (qaCons (qC (.str (tx "-07"))) (qaCons (qC (.str (tx "000"))) qaNil)))))) (qCall sp__law_draw (qaCons (qVar 0) (qaCons (qC (.int 5)) qaNil))))) qNext)
    (qSeq (qIfS (qTest (qOp rEqD (qVar 1) (qC (.int 3)))) (qRet (qOp rIx (qLst (qaCons (qCB rStr1 (qaCons (qOp rPow (qC (.int 2)) (qC (.int 59))) qaNil)) (qaCons (qCB rStr1 (qaCons (qOp rSub (qUn rNeg (qOp rPow (qC (.int 2)) (qC (.int 59)))) (qC (.int 1))) qaNil)) (qaCons (qCB rStr1 (qaCons (qOp rPow (qC (.int 10)) (qC (.int 39))) qaNil)) (qaCons (qOp rAdd (qC (.str (tx "1"))) (qOp rMulW (qC (.str (tx "0"))) (qC (.int 4999)))) qaNil))))) (qCall sp__law_draw (qaCons (qVar 0) (qaCons (qC (.int 4)) qaNil))))) qNext)
    (qSeq (qIfS (qTest (qOp rEqD (qVar 1) (qC (.int 4)))) (qRet (qOp rAdd (qCB rStr1 (qaCons (qOp rSub (qCall sp__law_draw (qaCons (qVar 0) (qaCons (qC (.int 900)) qaNil))) (qC (.int 450))) qaNil)) (qOp rIx (qC (.str (tx "a+-_?"))) (qCall sp__law_draw (qaCons (qVar 0) (qaCons (qC (.int 5)) qaNil)))))) qNext)
    (qSeq (qIfS (qTest (qOp rEqD (qVar 1) (qC (.int 5)))) (qRet (qOp rAdd (qSl (qCall sp__law_symbol (qaCons (qVar 0) qaNil)) qoNone (qoSome (qC (.int 1)))) (qOp rMulW (qC (.str (tx "q"))) (qOp rAdd (qC (.int 20)) (qCall sp__law_draw (qaCons (qVar 0) (qaCons (qC (.int 3)) qaNil))))))) qNext)
    (qSeq (qIfS (qTest (qOp rEqD (qVar 1) (qC (.int 6)))) (qRet (qOp rAdd (qOp rAdd (qC (.str (tx "7"))) (qCall sp__law_symbol (qaCons (qVar 0) qaNil))) (qC (.str (tx "x"))))) qNext)
    (qSeq (qIfS (qTest (qOp rEqD (qVar 1) (qC (.int 7)))) (qRet (qC (.str (tx "\"\"\"\n")))) qNext)
    (qRet (qOp rAdd (qC (.str (tx "0"))) (qCB rStr1 (qaCons (qCall sp__law_draw (qaCons (qVar 0) (qaCons (qC (.int 30)) qaNil))) qaNil)))))))))))))
def sp__law_fault : SpD := spOf 1 N__law_fault rd__law_fault
theorem o__law_fault (g : Gb P K mg) : OkFn P w K mg base TT 8 "_law_fault" ["flow"] sp__law_fault := okfn_of (k := 7) g.f__law_fault sc__law_fault rfl fun f cdv A outer s H E hr tk => by
  unfold rd__law_fault
  exact (ss_cons (s_set (i := 1) sc__law_fault.nd rfl (by first | exact .inl rfl | exact .inr rfl) (q_callF (o__law_draw g) (hr.mono (by omega)) tk (a_cons (qv 0) (a_cons q_int a_nil))))
    (ss_cons (s_if (t_cmp oq_eq (qv 1) q_int) (ss_one (s_ret (q_ix q_str (q_callF (o__law_draw g) (hr.mono (by omega)) tk (a_cons (qv 0) (a_cons q_int a_nil)))))) ss_nil)
    (ss_cons (s_if (t_cmp oq_eq (qv 1) q_int) (ss_one (s_ret (q_op oq_add (q_op oq_add q_str (q_replC (q_callF (o__law_inner g) (hr.mono (by omega)) tk (a_cons (qv 0) a_nil)) g.hT)) q_str))) ss_nil)
    (ss_cons (s_if (t_cmp oq_eq (qv 1) q_int) (ss_one (s_ret (q_ix (q_lst (a_cons q_str (a_cons q_str (a_cons q_str (a_cons q_str (a_cons q_str a_nil)))))) (q_callF (o__law_draw g) (hr.mono (by omega)) tk (a_cons (qv 0) (a_cons q_int a_nil)))))) ss_nil)
    (ss_cons (s_if (t_cmp oq_eq (qv 1) q_int) (ss_one (s_ret (q_ix (q_lst (a_cons (q_callTy c_str rfl g.n_str PyProof.Rows.Boot.«str» (a_cons (q_op oq_pow q_int q_int) a_nil)) (a_cons (q_callTy c_str rfl g.n_str PyProof.Rows.Boot.«str» (a_cons (q_op oq_sub (q_un oq_neg (q_op oq_pow q_int q_int)) q_int) a_nil)) (a_cons (q_callTy c_str rfl g.n_str PyProof.Rows.Boot.«str» (a_cons (q_op oq_pow q_int q_int) a_nil)) (a_cons (q_op oq_add q_str (q_op oq_mulW q_str q_int)) a_nil))))) (q_callF (o__law_draw g) (hr.mono (by omega)) tk (a_cons (qv 0) (a_cons q_int a_nil)))))) ss_nil)
    (ss_cons (s_if (t_cmp oq_eq (qv 1) q_int) (ss_one (s_ret (q_op oq_add (q_callTy c_str rfl g.n_str PyProof.Rows.Boot.«str» (a_cons (q_op oq_sub (q_callF (o__law_draw g) (hr.mono (by omega)) tk (a_cons (qv 0) (a_cons q_int a_nil))) q_int) a_nil)) (q_ix q_str (q_callF (o__law_draw g) (hr.mono (by omega)) tk (a_cons (qv 0) (a_cons q_int a_nil))))))) ss_nil)
    (ss_cons (s_if (t_cmp oq_eq (qv 1) q_int) (ss_one (s_ret (q_op oq_add (q_slice (q_callF (o__law_symbol g) (hr.mono (by omega)) tk (a_cons (qv 0) a_nil)) o_none (o_some q_int)) (q_op oq_mulW q_str (q_op oq_add q_int (q_callF (o__law_draw g) (hr.mono (by omega)) tk (a_cons (qv 0) (a_cons q_int a_nil)))))))) ss_nil)
    (ss_cons (s_if (t_cmp oq_eq (qv 1) q_int) (ss_one (s_ret (q_op oq_add (q_op oq_add q_str (q_callF (o__law_symbol g) (hr.mono (by omega)) tk (a_cons (qv 0) a_nil))) q_str))) ss_nil)
    (ss_cons (s_if (t_cmp oq_eq (qv 1) q_int) (ss_one (s_ret q_str)) ss_nil)
    (ss_one (s_ret (q_op oq_add q_str (q_callTy c_str rfl g.n_str PyProof.Rows.Boot.«str» (a_cons (q_callF (o__law_draw g) (hr.mono (by omega)) tk (a_cons (qv 0) (a_cons q_int a_nil))) a_nil))))))))))))))
/-! ### _law_space -/
abbrev N__law_space : List Str := ["flow"]
theorem sc__law_space : FnScope N__law_space ["flow"] (defScope s__law_space) := ⟨rfl, rfl, rfl, by decide +kernel, rfl, by decide +kernel, by decide +kernel⟩
def rd__law_space : QS := (qRet (qOp rIx (qLst (qaCons (qC (.str (tx " "))) (qaCons (qC (.str (tx "\n"))) (qaCons (qC (.str (tx "  "))) (qaCons (qC (.str (tx " \n "))) (qaCons (qC (.str (tx "; a \" note ) '\n"))) (qaCons (qC (.str (tx ";\n\n"))) (qaCons (qC (.str (tx " ;;01\n"))) qaNil)))))))) (qCall sp__law_draw (qaCons (qVar 0) (qaCons (qC (.int 7)) qaNil)))))
def sp__law_space : SpD := spOf 1 N__law_space rd__law_space
theorem o__law_space (g : Gb P K mg) : OkFn P w K mg base TT 6 "_law_space" ["flow"] sp__law_space := okfn_of (k := 5) g.f__law_space sc__law_space rfl fun f cdv A outer s H E hr tk => by
  unfold rd__law_space
  exact (ss_one (s_ret (q_ix (q_lst (a_cons q_str (a_cons q_str (a_cons q_str (a_cons q_str (a_cons q_str (a_cons q_str (a_cons q_str a_nil)))))))) (q_callF (o__law_draw g) (hr.mono (by omega)) tk (a_cons (qv 0) (a_cons q_int a_nil))))))
/-! ### _law_pieces -/
abbrev N__law_pieces : List Str := ["flow", "many", "spoilt", "text", "due", "last", "bad", "k", "line", "tight", "word", "sort", "worth"]
theorem sc__law_pieces : FnScope N__law_pieces ["flow"] (defScope s__law_pieces) := ⟨rfl, rfl, rfl, by decide +kernel, rfl, by decide +kernel, by decide +kernel⟩
def rd__law_pieces : QS := (qSeq (qSet 1 (qCall sp__law_draw (qaCons (qVar 0) (qaCons (qC (.int 31)) qaNil))))
    (qSeq (qSet 2 (qUn rNeg (qC (.int 1))))
    (qSeq (qIfS (qTest (qOp rEqD (qCall sp__law_draw (qaCons (qVar 0) (qaCons (qC (.int 3)) qaNil))) (qC (.int 1)))) (qSet 2 (qCall sp__law_draw (qaCons (qVar 0) (qaCons (qOp rAdd (qVar 1) (qC (.int 1))) qaNil)))) qNext)
    (qSeq (qSet 3 (qOp rIx (qLst (qaCons (qC (.str (tx ""))) (qaCons (qC (.str (tx "\n"))) (qaCons (qC (.str (tx " "))) (qaCons (qC (.str (tx "; so\n"))) qaNil))))) (qCall sp__law_draw (qaCons (qVar 0) (qaCons (qC (.int 4)) qaNil)))))
    (qSeq (qSet 4 (qLst qaNil))
    (qSeq (qSet 5 (qC (.str (tx ""))))
    (qSeq (qSet 6 (qC .non))
    (qSeq (qFor (qRng1 (qaCons (qOp rAdd (qVar 1) (qC (.int 1))) qaNil)) (qgName 7) (qSeq (qSet 8 (qOp rAdd (qC (.int 1)) (qBM "str" rCount (qVar 3) (qaCons (qC (.str (tx "\n"))) qaNil))))
    (qIfS (qTest (qOp rEqD (qVar 7) (qVar 2))) (qSeq (qSet 3 (qOp rAdd (qVar 3) (qCall sp__law_space (qaCons (qVar 0) qaNil))))
    (qSeq (qSet 6 (qIf (qTest (qOp rIsN (qVar 6) (qC .non))) (qOp rAdd (qC (.int 1)) (qBM "str" rCount (qVar 3) (qaCons (qC (.str (tx "\n"))) qaNil))) (qVar 6)))
    (qSeq (qSet 3 (qOp rAdd (qOp rAdd (qVar 3) (qCall sp__law_fault (qaCons (qVar 0) qaNil))) (qCall sp__law_space (qaCons (qVar 0) qaNil))))
    (qSet 5 (qC (.str (tx ""))))))) (qIfS (qTest (qOp rLt (qVar 7) (qVar 1))) (qSeq (qAsg (qCall sp__law_piece (qaCons (qVar 0) qaNil)) (qgTup 3 (qgCons (qgName 10) (qgCons (qgName 11) (qgCons (qgName 12) qgNil)))))
    (qSeq (qSet 9 (qAndV (qOp rNeD (qVar 5) (qC (.str (tx "")))) (qOrV (qOp rEqD (qVar 11) (qC (.str (tx "mark")))) (qOrV (qOp rEqD (qVar 5) (qC (.str (tx "mark")))) (qOp rNeD (qOp rEqD (qVar 11) (qC (.str (tx "text")))) (qOp rEqD (qVar 5) (qC (.str (tx "text")))))))))
    (qSeq (qIfS (qAnd (qTest (qOp rNeD (qVar 5) (qC (.str (tx ""))))) (qNot (qAnd (qTest (qVar 9)) (qTest (qOp rEqD (qCall sp__law_draw (qaCons (qVar 0) (qaCons (qC (.int 2)) qaNil))) (qC (.int 1))))))) (qSeq (qSet 3 (qOp rAdd (qVar 3) (qCall sp__law_space (qaCons (qVar 0) qaNil))))
    (qSet 8 (qOp rAdd (qC (.int 1)) (qBM "str" rCount (qVar 3) (qaCons (qC (.str (tx "\n"))) qaNil))))) qNext)
    (qSeq (qSet 3 (qOp rAdd (qVar 3) (qVar 10)))
    (qSeq (qDrop (qBM "list" rAppend (qVar 4) (qaCons (qTup (qaCons (qVar 11) (qaCons (qVar 12) (qaCons (qVar 8) qaNil)))) qaNil)))
    (qSet 5 (qVar 11))))))) qNext))))
    (qSeq (qIfS (qTest (qOp rEqD (qCall sp__law_draw (qaCons (qVar 0) (qaCons (qC (.int 3)) qaNil))) (qC (.int 1)))) (qSet 3 (qOp rAdd (qVar 3) (qC (.str (tx " ; the last \" one"))))) qNext)
    (qRet (qTup (qaCons (qVar 3) (qaCons (qIf (qTest (qOp rIsN (qVar 6) (qC .non))) (qTup (qaCons (qC (.str (tx "told"))) (qaCons (qVar 4) qaNil))) (qTup (qaCons (qC (.str (tx "bad"))) (qaCons (qVar 6) qaNil)))) qaNil)))))))))))))
def sp__law_pieces : SpD := spOf 1 N__law_pieces rd__law_pieces
theorem o__law_pieces (g : Gb P K mg) : OkFn P w K mg base TT 10 "_law_pieces" ["flow"] sp__law_pieces := okfn_of (k := 9) g.f__law_pieces sc__law_pieces rfl fun f cdv A outer s H E hr tk => by
  unfold rd__law_pieces
  exact (ss_cons (s_set (i := 1) sc__law_pieces.nd rfl (by first | exact .inl rfl | exact .inr rfl) (q_callF (o__law_draw g) (hr.mono (by omega)) tk (a_cons (qv 0) (a_cons q_int a_nil))))
    (ss_cons (s_set (i := 2) sc__law_pieces.nd rfl (by first | exact .inl rfl | exact .inr rfl) (q_un oq_neg q_int))
    (ss_cons (s_if (t_cmp oq_eq (q_callF (o__law_draw g) (hr.mono (by omega)) tk (a_cons (qv 0) (a_cons q_int a_nil))) q_int) (ss_one (s_set (i := 2) sc__law_pieces.nd rfl (by first | exact .inl rfl | exact .inr rfl) (q_callF (o__law_draw g) (hr.mono (by omega)) tk (a_cons (qv 0) (a_cons (q_op oq_add (qv 1) q_int) a_nil))))) ss_nil)
    (ss_cons (s_set (i := 3) sc__law_pieces.nd rfl (by first | exact .inl rfl | exact .inr rfl) (q_ix (q_lst (a_cons q_str (a_cons q_str (a_cons q_str (a_cons q_str a_nil))))) (q_callF (o__law_draw g) (hr.mono (by omega)) tk (a_cons (qv 0) (a_cons q_int a_nil)))))
    (ss_cons (s_set (i := 4) sc__law_pieces.nd rfl (by first | exact .inl rfl | exact .inr rfl) (q_lst a_nil))
    (ss_cons (s_set (i := 5) sc__law_pieces.nd rfl (by first | exact .inl rfl | exact .inr rfl) q_str)
    (ss_cons (s_set (i := 6) sc__law_pieces.nd rfl (by first | exact .inl rfl | exact .inr rfl) q_non)
    (ss_cons (s_for PassesOwn.leaving rfl (i_rng1 rfl g.n_range (a_cons (q_op oq_add (qv 1) q_int) a_nil)) (g_name (i := 7) sc__law_pieces.nd rfl (by first | exact .inl rfl | exact .inr rfl)) (ss_cons (s_set (i := 8) sc__law_pieces.nd rfl (by first | exact .inl rfl | exact .inr rfl) (q_op oq_add q_int (q_bm PySem.F.plainAttrs_str PySem.F.slot_str_count PySem.F.type_str_count m_count (qv 3) (a_cons q_str a_nil))))
    (ss_one (s_if (t_cmp oq_eq (qv 7) (qv 2)) (ss_cons (s_set (i := 3) sc__law_pieces.nd rfl (by first | exact .inl rfl | exact .inr rfl) (q_op oq_add (qv 3) (q_callF (o__law_space g) (hr.mono (by omega)) tk (a_cons (qv 0) a_nil))))
    (ss_cons (s_set (i := 6) sc__law_pieces.nd rfl (by first | exact .inl rfl | exact .inr rfl) (q_if (t_cmp oq_isN (qv 6) q_non) (q_op oq_add q_int (q_bm PySem.F.plainAttrs_str PySem.F.slot_str_count PySem.F.type_str_count m_count (qv 3) (a_cons q_str a_nil))) (qv 6)))
    (ss_cons (s_set (i := 3) sc__law_pieces.nd rfl (by first | exact .inl rfl | exact .inr rfl) (q_op oq_add (q_op oq_add (qv 3) (q_callF (o__law_fault g) (hr.mono (by omega)) tk (a_cons (qv 0) a_nil))) (q_callF (o__law_space g) (hr.mono (by omega)) tk (a_cons (qv 0) a_nil))))
    (ss_one (s_set (i := 5) sc__law_pieces.nd rfl (by first | exact .inl rfl | exact .inr rfl) q_str))))) (ss_one (s_if (t_cmp oq_lt (qv 7) (qv 1)) (ss_cons (s_asg (q_callF (o__law_piece g) (hr.mono (by omega)) tk (a_cons (qv 0) a_nil)) (g_tup rfl (gs_cons (g_name (i := 10) sc__law_pieces.nd rfl (by first | exact .inl rfl | exact .inr rfl)) (gs_cons (g_name (i := 11) sc__law_pieces.nd rfl (by first | exact .inl rfl | exact .inr rfl)) (gs_cons (g_name (i := 12) sc__law_pieces.nd rfl (by first | exact .inl rfl | exact .inr rfl)) gs_nil)))))
    (ss_cons (s_set (i := 9) sc__law_pieces.nd rfl (by first | exact .inl rfl | exact .inr rfl) (q_and (q_cmp oq_ne (qv 5) q_str) (q_one (q_or (q_cmp oq_eq (qv 11) q_str) (q_or (q_cmp oq_eq (qv 5) q_str) (q_one (q_cmp oq_ne (q_cmp oq_eq (qv 11) q_str) (q_cmp oq_eq (qv 5) q_str))))))))
    (ss_cons (s_if (t_w (w_and (t_cmp oq_ne (qv 5) q_str) (w_and1 (t_not (t_w (w_and (t_val (qv 9)) (w_and1 (t_cmp oq_eq (q_callF (o__law_draw g) (hr.mono (by omega)) tk (a_cons (qv 0) (a_cons q_int a_nil))) q_int)))))))) (ss_cons (s_set (i := 3) sc__law_pieces.nd rfl (by first | exact .inl rfl | exact .inr rfl) (q_op oq_add (qv 3) (q_callF (o__law_space g) (hr.mono (by omega)) tk (a_cons (qv 0) a_nil))))
    (ss_one (s_set (i := 8) sc__law_pieces.nd rfl (by first | exact .inl rfl | exact .inr rfl) (q_op oq_add q_int (q_bm PySem.F.plainAttrs_str PySem.F.slot_str_count PySem.F.type_str_count m_count (qv 3) (a_cons q_str a_nil)))))) ss_nil)
    (ss_cons (s_set (i := 3) sc__law_pieces.nd rfl (by first | exact .inl rfl | exact .inr rfl) (q_op oq_add (qv 3) (qv 10)))
    (ss_cons (s_expr (q_bm PySem.F.plainAttrs_list PySem.F.slot_list_append PySem.F.type_list_append m_append (qv 4) (a_cons (q_tup (a_cons (qv 11) (a_cons (qv 12) (a_cons (qv 8) a_nil)))) a_nil)))
    (ss_one (s_set (i := 5) sc__law_pieces.nd rfl (by first | exact .inl rfl | exact .inr rfl) (qv 11)))))))) ss_nil))))))
    (ss_cons (s_if (t_cmp oq_eq (q_callF (o__law_draw g) (hr.mono (by omega)) tk (a_cons (qv 0) (a_cons q_int a_nil))) q_int) (ss_one (s_set (i := 3) sc__law_pieces.nd rfl (by first | exact .inl rfl | exact .inr rfl) (q_op oq_add (qv 3) q_str))) ss_nil)
    (ss_one (s_ret (q_tup (a_cons (qv 3) (a_cons (q_if (t_cmp oq_isN (qv 6) q_non) (q_tup (a_cons q_str (a_cons (qv 4) a_nil))) (q_tup (a_cons q_str (a_cons (qv 6) a_nil)))) a_nil))))))))))))))
/-! ### _law_told -/
abbrev N__law_told : List Str := ["thing", "e", "found"]
theorem sc__law_told : FnScope N__law_told ["thing"] (defScope s__law_told) := ⟨rfl, rfl, rfl, by decide +kernel, rfl, by decide +kernel, by decide +kernel⟩
def rd__law_told : QS := (qSeq (qTry tbl__law_told_0 ((.ref C_NoText, none, fun C a d => (qSet 2 (qTup (qaCons (qC (.str (tx "none"))) (qaCons (qC (.int 0)) qaNil))))) :: ((.ref C_BadText, some 1, fun C a d => (qSet 2 (qTup (qaCons (qC (.str (tx "bad"))) (qaCons (qXf X_line C a d "line" (qVar 1)) qaNil))))) :: [])) (qSet 2 (qTup (qaCons (qC (.str (tx "told"))) (qaCons (qCall sp_words (qaCons (qVar 0) qaNil)) qaNil)))))
    (qRet (qVar 2)))
def sp__law_told : SpD := spOf 1 N__law_told rd__law_told
theorem o__law_told (g : Gb P K mg) : OkFn P w K mg base TT 12 "_law_told" ["thing"] sp__law_told := okfn_of (k := 11) g.f__law_told sc__law_told rfl fun f cdv A outer s H E hr tk => by
  unfold rd__law_told
  exact (ss_cons (s_try (tbl := tbl__law_told_0) rfl rfl tk (fun W1 pn xe tk1 hp1 => (ss_one (s_set (i := 2) sc__law_told.nd rfl (by first | exact .inl rfl | exact .inr rfl) (q_tup (a_cons q_str (a_cons (q_callF (o_words g) (hr.mono (by omega)) tk1 (a_cons (qv 0) a_nil)) a_nil)))))) (.plain (q := fun C a d => (qSet 2 (qTup (qaCons (qC (.str (tx "none"))) (qaCons (qC (.int 0)) qaNil))))) ⟨rfl, by decide, .inl g.k_NoText⟩ (fun a oe C d pn hz hf => (ss_one (s_set (i := 2) sc__law_told.nd rfl (by first | exact .inl rfl | exact .inr rfl) (q_tup (a_cons q_str (a_cons q_int a_nil)))))) (.named (i := 1) (q := fun C a d => (qSet 2 (qTup (qaCons (qC (.str (tx "bad"))) (qaCons (qXf X_line C a d "line" (qVar 1)) qaNil))))) ⟨rfl, by decide, .inl g.k_BadText⟩ sc__law_told.nd rfl rfl (fun a oe C d pn hz hf => (ss_one (s_set (i := 2) sc__law_told.nd rfl (by first | exact .inl rfl | exact .inr rfl) (q_tup (a_cons q_str (a_cons (q_xf g.x_line hz hf (qv 1)) a_nil)))))) .nil)) g.y__law_told_0)
    (ss_one (s_ret (qv 2))))
/-! ### law -/
abbrev N_law : List Str := ["script", "flow", "way", "thing", "told", "text", "k", "due"]
theorem sc_law : FnScope N_law ["script"] (defScope s_law) := ⟨rfl, rfl, rfl, by decide +kernel, rfl, by decide +kernel, by decide +kernel⟩
def rd_law : QS := (qSeq (qSet 1 (qCall sp__law_flow (qaCons (qVar 0) qaNil)))
    (qSeq (qSet 2 (qCall sp__law_draw (qaCons (qVar 1) (qaCons (qC (.int 3)) qaNil))))
    (qSeq (qSet 3 (qOp rIx (qLst (qaCons (qC .non) (qaCons (qC (.int 7)) (qaCons (qC (.bl true)) (qaCons (qTup (qaCons (qC (.str (tx "a"))) qaNil)) (qaCons (qLst (qaCons (qC (.str (tx "a"))) qaNil)) (qaCons (qDis1 (tx "a") 1) (qaCons (qTup qaNil) qaNil)))))))) (qCall sp__law_draw (qaCons (qVar 1) (qaCons (qC (.int 7)) qaNil)))))
    (qSeq (qIfS (qNot (qTest (qCall sp__law_same (qaCons (qCall sp__law_told (qaCons (qVar 3) qaNil)) (qaCons (qTup (qaCons (qC (.str (tx "none"))) (qaCons (qC (.int 0)) qaNil))) qaNil))))) (qRet (qC (.bl false))) qNext)
    (qSeq (qIfS (qTest (qOp rEqD (qVar 2) (qC (.int 0)))) (qSeq (qSet 5 (qC (.str (tx ""))))
    (qSeq (qFor (qRng1 (qaCons (qCall sp__law_draw (qaCons (qVar 1) (qaCons (qC (.int 61)) qaNil))) qaNil)) (qgName 6) (qSet 5 (qOp rAdd (qVar 5) (qCall sp__law_sign (qaCons (qVar 1) qaNil)))))
    (qSet 7 (qCall sp__law_cut (qaCons (qVar 5) qaNil))))) (qAsg (qCall sp__law_pieces (qaCons (qVar 1) qaNil)) (qgTup 2 (qgCons (qgName 5) (qgCons (qgName 7) qgNil)))))
    (qSeq (qSet 4 (qCall sp__law_told (qaCons (qVar 5) qaNil)))
    (qSeq (qIfS (qNot (qTest (qCall sp__law_same (qaCons (qVar 4) (qaCons (qVar 7) qaNil))))) (qRet (qC (.bl false))) qNext)
    (qSeq (qIfS (qTest (qOp rEqD (qOp rIx (qVar 4) (qC (.int 0))) (qC (.str (tx "told"))))) (qDrop (qBM "list" rAppend (qOp rIx (qVar 4) (qC (.int 1))) (qaCons (qTup (qaCons (qC (.str (tx "mark"))) (qaCons (qC (.str (tx "("))) (qaCons (qC (.int 1)) qaNil)))) qaNil))) qNext)
    (qRet (qCall sp__law_same (qaCons (qCall sp__law_told (qaCons (qVar 5) qaNil)) (qaCons (qVar 7) qaNil))))))))))))
def sp_law : SpD := spOf 1 N_law rd_law
theorem o_law (g : Gb P K mg) : OkFn P w K mg base TT 14 "law" ["script"] sp_law := okfn_of (k := 13) g.f_law sc_law rfl fun f cdv A outer s H E hr tk => by
  unfold rd_law
  exact (ss_cons (s_set (i := 1) sc_law.nd rfl (by first | exact .inl rfl | exact .inr rfl) (q_callF (o__law_flow g) (hr.mono (by omega)) tk (a_cons (qv 0) a_nil)))
    (ss_cons (s_set (i := 2) sc_law.nd rfl (by first | exact .inl rfl | exact .inr rfl) (q_callF (o__law_draw g) (hr.mono (by omega)) tk (a_cons (qv 1) (a_cons q_int a_nil))))
    (ss_cons (s_set (i := 3) sc_law.nd rfl (by first | exact .inl rfl | exact .inr rfl) (q_ix (q_lst (a_cons q_non (a_cons q_int (a_cons q_bl (a_cons (q_tup (a_cons q_str a_nil)) (a_cons (q_lst (a_cons q_str a_nil)) (a_cons q_dis1 (a_cons (q_tup a_nil) a_nil)))))))) (q_callF (o__law_draw g) (hr.mono (by omega)) tk (a_cons (qv 1) (a_cons q_int a_nil)))))
    (ss_cons (s_if (t_not (t_val (q_callF (o__law_same g) (hr.mono (by omega)) tk (a_cons (q_callF (o__law_told g) (hr.mono (by omega)) tk (a_cons (qv 3) a_nil)) (a_cons (q_tup (a_cons q_str (a_cons q_int a_nil))) a_nil))))) (ss_one (s_ret q_bl)) ss_nil)
    (ss_cons (s_if (t_cmp oq_eq (qv 2) q_int) (ss_cons (s_set (i := 5) sc_law.nd rfl (by first | exact .inl rfl | exact .inr rfl) q_str)
    (ss_cons (s_for PassesOwn.leaving rfl (i_rng1 rfl g.n_range (a_cons (q_callF (o__law_draw g) (hr.mono (by omega)) tk (a_cons (qv 1) (a_cons q_int a_nil))) a_nil)) (g_name (i := 6) sc_law.nd rfl (by first | exact .inl rfl | exact .inr rfl)) (ss_one (s_set (i := 5) sc_law.nd rfl (by first | exact .inl rfl | exact .inr rfl) (q_op oq_add (qv 5) (q_callF (o__law_sign g) (hr.mono (by omega)) tk (a_cons (qv 1) a_nil))))))
    (ss_one (s_set (i := 7) sc_law.nd rfl (by first | exact .inl rfl | exact .inr rfl) (q_callF (o__law_cut g) (hr.mono (by omega)) tk (a_cons (qv 5) a_nil)))))) (ss_one (s_asg (q_callF (o__law_pieces g) (hr.mono (by omega)) tk (a_cons (qv 1) a_nil)) (g_tup rfl (gs_cons (g_name (i := 5) sc_law.nd rfl (by first | exact .inl rfl | exact .inr rfl)) (gs_cons (g_name (i := 7) sc_law.nd rfl (by first | exact .inl rfl | exact .inr rfl)) gs_nil))))))
    (ss_cons (s_set (i := 4) sc_law.nd rfl (by first | exact .inl rfl | exact .inr rfl) (q_callF (o__law_told g) (hr.mono (by omega)) tk (a_cons (qv 5) a_nil)))
    (ss_cons (s_if (t_not (t_val (q_callF (o__law_same g) (hr.mono (by omega)) tk (a_cons (qv 4) (a_cons (qv 7) a_nil))))) (ss_one (s_ret q_bl)) ss_nil)
    (ss_cons (s_if (t_cmp oq_eq (q_ix (qv 4) q_int) q_str) (ss_one (s_expr (q_bm PySem.F.plainAttrs_list PySem.F.slot_list_append PySem.F.type_list_append m_append (q_ix (qv 4) q_int) (a_cons (q_tup (a_cons q_str (a_cons q_str (a_cons q_int a_nil)))) a_nil)))) ss_nil)
    (ss_one (s_ret (q_callF (o__law_same g) (hr.mono (by omega)) tk (a_cons (q_callF (o__law_told g) (hr.mono (by omega)) tk (a_cons (qv 5) a_nil)) (a_cons (qv 7) a_nil)))))))))))))
end
end K01
end

section
set_option Elab.async false
set_option linter.all false
set_option maxRecDepth 100000
set_option maxHeartbeats 4000000
namespace K01
open DL L2
def isFig (c : Nat) : Bool := decide (c ∈ tx "0123456789")
def isLet (c : Nat) : Bool := decide (c ∈ tx "abcdefghijklmnopqrstuvwxyzABCDEFGHIJKLMNOPQRSTUVWXYZ+-*/=<>!?_")
def isSg (c : Nat) : Bool := isLet c || isFig c
theorem u_is_sign {c : Nat} {M : Mp} {Q : QK} {E : QX} (h : Q (.bl (isSg c)) M) : sp_is_sign [.str [c]] M Q E := by
  refine ⟨rfl, ?_⟩
  conv => whnf
  unfold isSg at h
  cases h1 : isLet c <;> rw [h1] at h <;> rw [show decide (c ∈ tx "abcdefghijklmnopqrstuvwxyzABCDEFGHIJKLMNOPQRSTUVWXYZ+-*/=<>!?_") = _ from h1]
  · conv => whnf
    exact h
  · conv => whnf
    exact h
def bareW (w : List Nat) : List Nat := if w.take 1 = [45] then w.drop 1 else w
def likeInt (w : List Nat) : Bool := match bareW w with
  | c :: _ => isFig c
  | [] => false
theorem bareW_len (w : List Nat) : (bareW w).length ≤ w.length := by
  unfold bareW
  split
  · rw [List.length_drop]; omega
  · exact Nat.le_refl _
theorem tx_dash : tx "-" = [45] := by decide
theorem cut_dash (w : List Nat) : decide (cut w none (some 1) = tx "-") = decide (w.take 1 = [45]) := by
  rw [tx_dash, show (some (1 : Int)) = some ((1 : Nat) : Int) from rfl, cut_0n]
theorem cut_rest (w : List Nat) : cut w (some 1) none = w.drop 1 := cut_n0 w 1
theorem u_is_like_integer {w : List Nat} {M : Mp} {Q : QK} {E : QX} (hl : w.length ≤ LTX) (h : Q (.bl (likeInt w)) M) : sp_is_like_integer [.str w] M Q E := by
  refine ⟨rfl, ?_⟩
  unfold rd_is_like_integer
  conv => whnf
  refine ⟨lt_size hl, ?_⟩
  conv => whnf
  rw [cut_dash]
  have key : ∀ b : List Nat, b.length ≤ LTX → bareW w = b → qRet (qAndV (qOp rGt (qCB rLen (qaCons (qVar 1) qaNil)) (qC (D.int 0))) (qOp (DL.rIn false) (qOp DL.rIx (qVar 1) (qC (D.int 0))) (qC (D.str (tx "0123456789"))))) (endsD Q E) [some (.str w), some (.str b)] M := by
    intro b hb e
    conv => whnf
    refine ⟨lt_size hb, ?_⟩
    conv => whnf
    cases b with
    | nil =>
      conv => whnf
      unfold likeInt at h
      rw [e] at h
      exact h
    | cons c r =>
      have e0 : decide ((0 : Int) < ((c :: r).length : Nat)) = true := by simp
      rw [e0]
      conv => whnf
      refine ⟨lt_size hb, ?_⟩
      rw [show (0 : Int) = ((0 : Nat) : Int) from rfl, atN]
      conv => whnf
      unfold likeInt at h
      rw [e] at h
      exact h
  by_cases hd : w.take 1 = [45]
  · rw [decide_eq_true hd]
    conv => whnf
    refine ⟨lt_size hl, ?_⟩
    rw [cut_rest]
    exact key _ (Nat.le_trans (by rw [List.length_drop]; omega) hl) (if_pos hd)
  · rw [decide_eq_false hd]
    exact key _ hl (if_neg hd)
theorem mem_all {α : Type} (f : α → Bool) (l : List α) : (l.map fun x => f x).all (fun b => b) = l.all f := by
  induction l with
  | nil => rfl
  | cons a l ih => simp [ih]
theorem bls_map {α : Type} (f : α → Bool) : ∀ l : List α, blsD (l.map fun x => D.bl (f x)) = some (l.map f)
  | [] => rfl
  | a :: l => by
    show (blsD (l.map fun x => D.bl (f x))).map (f a :: ·) = _
    rw [bls_map f l]
    rfl
/-- the sign of a one-sign text -/
def onD (f : Nat → Bool) : D → D
  | .str [c] => .bl (f c)
  | d => d
theorem map_on (f : Nat → Bool) (w : List Nat) : (w.map fun c => D.str [c]).map (onD f) = w.map fun c => D.bl (f c) := by
  rw [List.map_map]
  rfl
def isSym (w : List Nat) : Bool := decide (1 ≤ w.length) && decide (w.length ≤ 20) && !likeInt w && w.all isSg
theorem u_is_symbol {w : List Nat} {M : Mp} {Q : QK} {E : QX} (hl : w.length ≤ LTX) (h : ∀ M', MExt M M' → Q (.bl (isSym w)) M') : sp_is_symbol [.str w] M Q E := by
  refine ⟨rfl, ?_⟩
  have h1 := @u_is_like_integer
  have h2 := @u_is_sign
  unfold rd_is_symbol
  generalize sp_is_like_integer = s1 at h1 ⊢
  generalize sp_is_sign = s2 at h2 ⊢
  conv => whnf
  refine ⟨lt_size hl, ?_⟩
  conv => whnf
  have ret : (isSym w = false) → Q (.bl false) M := fun e => by rw [← e]; exact h M (MExt.refl M)
  unfold isSym at h ret
  by_cases ha : 1 ≤ w.length
  · rw [decide_eq_true (show (1 : Int) ≤ (w.length : Int) by omega)]
    conv => whnf
    by_cases hb : w.length ≤ 20
    · rw [decide_eq_true (show (w.length : Int) ≤ 20 by omega)]
      conv => whnf
      refine h1 hl ?_
      rw [decide_eq_true ha, decide_eq_true hb] at h ret
      conv => whnf
      cases hk : likeInt w
      · rw [hk] at h ret
        conv => whnf
        intro p hp
        refine lcL_map (onD isSg) hp trivial (by rw [List.length_map]; exact lt_size hl) (fun d hd M1 K k1 hK => ?_) fun M' k' hM' => ?_
        · obtain ⟨c, _, rfl⟩ := List.mem_map.mp hd
          exact h2 (hK M1 (MExt.refl M1))
        · conv => whnf
          rw [hM', map_on]
          conv => whnf
          rw [bls_map]
          conv => whnf
          rw [mem_all]
          exact h M' k'
      · rw [hk] at ret
        conv => whnf
        exact ret rfl
    · rw [decide_eq_false (show ¬ (w.length : Int) ≤ 20 by omega)]
      conv => whnf
      exact ret (by rw [decide_eq_false hb]; simp)
  · rw [decide_eq_false (show ¬ (1 : Int) ≤ (w.length : Int) by omega)]
    conv => whnf
    exact ret (by rw [decide_eq_false ha]; simp)
theorem tx_figs : tx "0123456789" = [48, 49, 50, 51, 52, 53, 54, 55, 56, 57] := by decide
theorem isFig_iff {c : Nat} : isFig c = true ↔ 48 ≤ c ∧ c ≤ 57 := by
  unfold isFig
  rw [decide_eq_true_eq, tx_figs]
  simp only [List.mem_cons, List.not_mem_nil, or_false]
  omega
def LEASTv : Int := -576460752303423488
def MOSTv : Int := 576460752303423487
def wordVal (w : List Nat) : Int := if w.take 1 = [45] then -(PySem.NumText.digitsVal (w.drop 1) : Nat) else (PySem.NumText.digitsVal w : Nat)
def isIntW (w : List Nat) : Bool := decide (1 ≤ (bareW w).length) && decide ((bareW w).length ≤ 18) && (bareW w).all isFig && ((bareW w).head? != some 48 || w == [48]) && decide (LEASTv ≤ wordVal w) && decide (wordVal w ≤ MOSTv)
theorem int_word {w : List Nat} (h1 : 1 ≤ (bareW w).length) (h2 : (bareW w).all isFig = true) (h3 : (bareW w).length ≤ 18) : PySem.intText? ⟨w.toArray⟩ = some (wordVal w) ∧ w.length ≤ 19 := by
  have al : ∀ b : List Nat, b.all isFig = true → PySem.NumText.AllDigits b := fun b h c hc => isFig_iff.mp (List.all_eq_true.mp h c hc)
  unfold bareW at h1 h2 h3
  unfold wordVal
  by_cases hd : w.take 1 = [45]
  · rw [if_pos hd] at h1 h2 h3 ⊢
    obtain ⟨r, rfl⟩ : ∃ r, w = 45 :: r := by
      cases w with
      | nil => simp at hd
      | cons c r => simp at hd; exact ⟨r, by rw [hd]⟩
    have h1 : 1 ≤ r.length := by simpa using h1
    have h3 : r.length ≤ 18 := by simpa using h3
    refine ⟨PySem.intText_neg (cs := r) (by simp) (al r (by simpa using h2)) (by intro z; rw [z] at h1; simp at h1) ?_, by simp; omega⟩
    show (⟨(45 :: r).toArray⟩ : PySem.Str).cps.size ≤ 4300
    simp
    omega
  · rw [if_neg hd] at h1 h2 h3 ⊢
    refine ⟨PySem.intText_digits (by simpa using al w h2) (by intro z; simp at z; rw [z] at h1; simp at h1) ?_, by omega⟩
    show (⟨w.toArray⟩ : PySem.Str).cps.size ≤ 4300
    simp
    omega
theorem u_is_integer_word {w : List Nat} {M : Mp} {Q : QK} {E : QX} (hl : w.length ≤ LTX) (h : ∀ M', MExt M M' → Q (.bl (isIntW w)) M') : sp_is_integer_word [.str w] M Q E := by
  refine ⟨rfl, ?_⟩
  unfold rd_is_integer_word
  conv => whnf
  refine ⟨lt_size hl, ?_⟩
  conv => whnf
  rw [cut_dash]
  unfold isIntW at h
  have hbl := Nat.le_trans (bareW_len w) hl
  have key : ∀ b : List Nat, bareW w = b → qSeq (qIfS (qOr (qNot (qTest (qChain rLe rLe (qC (.int 1)) (qCB rLen (qaCons (qVar 1) qaNil)) (qC (.int 18))))) (qNot (qTest (qCB rAll (qaCons (qLc (qIter (qVar 1)) (qgName 2) qYes (qOp (DL.rIn false) (qVar 2) (qC (.str (tx "0123456789")))) [2]) qaNil))))) (qRet (qC (.bl false))) qNext)
    (qRet (qAndV (qOrV (qOp rNeD (qOp DL.rIx (qVar 1) (qC (.int 0))) (qC (.str (tx "0")))) (qOp rEqD (qVar 0) (qC (.str (tx "0"))))) (qChain rLe rLe (qC (.int (-576460752303423488))) (qCB rInt1 (qaCons (qVar 0) qaNil)) (qC (.int 576460752303423487))))) (endsD Q E) [some (.str w), some (.str b), none] M := by
    intro b e
    rw [e] at h hbl
    conv => whnf
    refine ⟨lt_size hbl, ?_⟩
    conv => whnf
    by_cases ha : 1 ≤ b.length
    · rw [decide_eq_true (show (1 : Int) ≤ (b.length : Int) by omega)]
      conv => whnf
      by_cases hb : b.length ≤ 18
      · rw [decide_eq_true (show (b.length : Int) ≤ 18 by omega)]
        rw [decide_eq_true ha, decide_eq_true hb] at h
        conv => whnf
        intro p hp
        refine lcL_map (onD isFig) hp trivial (by rw [List.length_map]; exact lt_size hbl) (fun d hd M1 K k1 hK => ?_) fun M' k' hM' => ?_
        · obtain ⟨c, _, rfl⟩ := List.mem_map.mp hd
          exact hK M1 (MExt.refl M1)
        · conv => whnf
          rw [hM', map_on]
          conv => whnf
          rw [bls_map]
          conv => whnf
          rw [mem_all]
          have h := h M' k'
          cases hf : b.all isFig
          · rw [hf] at h
            conv => whnf
            exact h
          · rw [hf] at h
            conv => whnf
            refine ⟨lt_size hbl, ?_⟩
            rw [show (0 : Int) = ((0 : Nat) : Int) from rfl, atN]
            cases b with
            | nil => simp at ha
            | cons c r =>
              rw [List.head?_cons] at h
              conv => whnf
              have tail : ∀ M1, Q (.bl (decide (LEASTv ≤ wordVal w) && decide (wordVal w ≤ MOSTv))) M1 → qChain rLe rLe (qC (.int (-576460752303423488))) (qCB rInt1 (qaCons (qVar 0) qaNil)) (qC (.int 576460752303423487)) [some (.str w), some (.str (c :: r)), none] M1 Q ((endsD Q E).ex [some (.str w), some (.str (c :: r)), none]) := by
                intro M1 hq
                conv => whnf
                obtain ⟨iv, il⟩ := int_word (w := w) (by rw [e]; exact ha) (by rw [e]; exact hf) (by rw [e]; exact hb)
                refine ⟨wordVal w, iv, Nat.le_trans il (by decide), ?_⟩
                conv => whnf
                rw [show decide ((-576460752303423488 : Int) ≤ wordVal w) = decide (LEASTv ≤ wordVal w) from rfl]
                cases hx : decide (LEASTv ≤ wordVal w)
                · rw [hx] at hq
                  conv => whnf
                  exact hq
                · rw [hx] at hq
                  conv => whnf
                  exact hq
              have e1 : (!decide ([c] = tx "0")) = (some c != some 48) := by
                rw [show tx "0" = [48] by decide]
                by_cases z : c = 48
                · subst z; decide
                · rw [decide_eq_false (by simpa using z)]
                  simp [z]
              rw [e1]
              cases hc : (some c != some 48)
              · conv => whnf
                have e2 : decide (w = tx "0") = (w == [48]) := by
                  rw [show tx "0" = [48] by decide]
                  by_cases z : w = [48]
                  · simp [z]
                  · rw [decide_eq_false z]; simp [z]
                rw [e2]
                cases hw : (w == [48])
                · conv => whnf
                  rw [hc, hw] at h
                  exact h
                · rw [hc, hw] at h
                  exact tail M' (by simpa using h)
              · rw [hc] at h
                exact tail M' (by simpa using h)
      · rw [decide_eq_false (show ¬ (b.length : Int) ≤ 18 by omega)]
        rw [decide_eq_true ha, decide_eq_false hb] at h
        conv => whnf
        exact h M (MExt.refl M)
    · rw [decide_eq_false (show ¬ (1 : Int) ≤ (b.length : Int) by omega)]
      rw [decide_eq_false ha] at h
      conv => whnf
      exact h M (MExt.refl M)
  by_cases hd : w.take 1 = [45]
  · rw [decide_eq_true hd]
    conv => whnf
    refine ⟨lt_size hl, ?_⟩
    rw [cut_rest]
    exact key _ (if_pos hd)
  · rw [decide_eq_false hd]
    exact key _ (if_neg hd)
/-! ### where a run of signs ends -/
def spanL (p : Nat → Bool) (l : List Nat) : Nat := (l.takeWhile p).length
theorem spanL_cons (p : Nat → Bool) (c : Nat) (l : List Nat) : spanL p (c :: l) = if p c = true then spanL p l + 1 else 0 := by
  unfold spanL
  rw [List.takeWhile_cons]
  split <;> simp_all
theorem spanL_le (p : Nat → Bool) (l : List Nat) : spanL p l ≤ l.length := by
  unfold spanL
  exact (List.takeWhile_sublist p).length_le
theorem drop_get {x : List Nat} {a : Nat} (h : a < x.length) : ∃ c, x[a]? = some c ∧ x.drop a = c :: x.drop (a + 1) := by
  refine ⟨x[a], List.getElem?_eq_getElem h, ?_⟩
  rw [List.drop_eq_getElem_cons h]
theorem span_at {p : Nat → Bool} {x : List Nat} : ∀ (n a k : Nat), k - a = n → a ≤ k → k ≤ x.length → (∀ v, a ≤ v → v < k → ∃ c, x[v]? = some c ∧ p c = true) → (∀ c, x[k]? = some c → p c = false) → a + spanL p (x.drop a) = k
  | 0, a, k, e, h1, h2, h3, h4 => by
    have : a = k := by omega
    subst this
    by_cases h : a < x.length
    · obtain ⟨c, e1, e2⟩ := drop_get h
      rw [e2, spanL_cons, h4 c e1]
      simp
    · rw [List.drop_of_length_le (by omega)]
      rfl
  | n + 1, a, k, e, h1, h2, h3, h4 => by
    obtain ⟨c, e1, e2⟩ := drop_get (x := x) (a := a) (by omega)
    obtain ⟨c', e3, e4⟩ := h3 a (Nat.le_refl _) (by omega)
    rw [e1] at e3
    cases e3
    have := span_at n (a + 1) k (by omega) (by omega) h2 (fun v hv hk => h3 v (by omega) hk) h4
    rw [e2, spanL_cons, if_pos e4]
    omega
/-- the place behind the run that begins at a -/
def endOf (p : Nat → Bool) (x : List Nat) (a : Nat) : Nat := a + spanL p (x.drop a)
theorem endOf_le {p : Nat → Bool} {x : List Nat} {a : Nat} (h : a ≤ x.length) : endOf p x a ≤ x.length := by
  unfold endOf
  have := spanL_le p (x.drop a)
  rw [List.length_drop] at this
  omega
theorem endOf_yes {p : Nat → Bool} {x : List Nat} {a c : Nat} (e : x[a]? = some c) (h : p c = true) : endOf p x a = endOf p x (a + 1) := by
  have hl : a < x.length := (List.getElem?_eq_some_iff.mp e).1
  obtain ⟨c', e1, e2⟩ := drop_get hl
  rw [e] at e1
  cases e1
  unfold endOf
  rw [e2, spanL_cons, if_pos h]
  omega
theorem endOf_no {p : Nat → Bool} {x : List Nat} {a c : Nat} (e : x[a]? = some c) (h : p c = false) : endOf p x a = a := by
  have hl : a < x.length := (List.getElem?_eq_some_iff.mp e).1
  obtain ⟨c', e1, e2⟩ := drop_get hl
  rw [e] at e1
  cases e1
  unfold endOf
  rw [e2, spanL_cons, h]
  simp
theorem endOf_out {p : Nat → Bool} {x : List Nat} {a : Nat} (h : x.length ≤ a) : endOf p x a = a := by
  unfold endOf
  rw [List.drop_of_length_le h]
  rfl
theorem u_stretch_end {x : List Nat} {a : Nat} {M : Mp} {Q : QK} {E : QX} (hl : x.length ≤ LTX) (ha : a ≤ x.length) (h : Q (.int (endOf isSg x a : Nat)) M) : sp_stretch_end [.str x, .int a] M Q E := by
  refine ⟨rfl, ?_⟩
  have h2 := @u_is_sign
  unfold rd_stretch_end
  generalize sp_is_sign = s2 at h2 ⊢
  conv => whnf
  refine while_inv (fun m ρ M' => M' = M ∧ ∃ b : Nat, ρ = [some (.str x), some (.int b)] ∧ b ≤ x.length ∧ endOf isSg x b = endOf isSg x a ∧ m = x.length - b) (x.length - a) ⟨rfl, a, rfl, ha, rfl, rfl⟩ ?_
  rintro m ρ M' ⟨rfl, b, rfl, hb, he, rfl⟩
  conv => whnf
  refine ⟨lt_size hl, ?_⟩
  conv => whnf
  by_cases hlt : b < x.length
  · rw [decide_eq_true (show (b : Int) < (x.length : Int) by omega)]
    conv => whnf
    refine ⟨lt_size hl, ?_⟩
    rw [atN]
    obtain ⟨c, e1, e2⟩ := drop_get hlt
    rw [e1]
    conv => whnf
    refine h2 ?_
    conv => whnf
    cases hs : isSg c
    · conv => whnf
      rw [endOf_no e1 hs] at he
      rw [← he] at h
      exact h
    · conv => whnf
      refine ⟨Less _ _, fun _ _ z => z, ?_⟩
      conv => whnf
      refine ⟨x.length - (b + 1), by omega, rfl, b + 1, rfl, hlt, ?_, rfl⟩
      rw [← endOf_yes e1 hs]
      exact he
  · rw [decide_eq_false (show ¬ (b : Int) < (x.length : Int) by omega)]
    conv => whnf
    rw [endOf_out (by omega)] at he
    rw [← he] at h
    exact h
def notNl (c : Nat) : Bool := c != 10
theorem getD_some {x : List Nat} {v : Nat} (h : v < x.length) : x[v]? = some (x.toArray.getD v 0) := by
  rw [List.getElem?_eq_getElem h]
  simp [Array.getD, h]
theorem find_nl {x : List Nat} {a : Nat} (ha : a ≤ x.length) : (PySem.Txt.find3 ⟨x.toArray⟩ ⟨(tx "\n").toArray⟩ a = -1 ∧ endOf notNl x a = x.length) ∨ (PySem.Txt.find3 ⟨x.toArray⟩ ⟨(tx "\n").toArray⟩ a = (endOf notNl x a : Nat)) := by
  have el : (⟨x.toArray⟩ : PySem.Str).length = x.length := str_len x
  have et : (⟨(tx "\n").toArray⟩ : PySem.Str) = ⟨#[10]⟩ := by decide
  rw [et]
  have ef : PySem.fromIndex (⟨x.toArray⟩ : PySem.Str).length (a : Int) = a := by
    rw [el]
    show (max 0 (if (a : Int) < 0 then (a : Int) + (x.length : Int) else (a : Int))).toNat = a
    rw [if_neg (by omega)]
    omega
  rcases PySem.StrLaws.find3_spec ⟨x.toArray⟩ 10 a with ⟨h1, h2⟩ | ⟨k, h1, h2, h3, h4, h5⟩
  · rw [ef, el] at h2
    refine .inl ⟨h1, span_at _ a x.length rfl ha (Nat.le_refl _) (fun v hv hk => ⟨_, getD_some hk, ?_⟩) fun c hc => ?_⟩
    · have := h2 v hv hk
      simpa [notNl] using this
    · rw [List.getElem?_eq_none (Nat.le_refl _)] at hc
      cases hc
  · rw [ef] at h2 h5
    rw [el] at h3
    refine .inr ?_
    rw [h1]
    congr 1
    refine (span_at _ a k rfl h2 (Nat.le_of_lt h3) (fun v hv hk => ⟨_, getD_some (Nat.lt_trans hk h3), ?_⟩) fun c hc => ?_).symm
    · have := h5 v hv hk
      simpa [notNl] using this
    · rw [getD_some h3] at hc
      cases hc
      have h4 : x.toArray.getD k 0 = 10 := h4
      rw [h4]
      rfl
theorem u_line_end {x : List Nat} {a : Nat} {M : Mp} {Q : QK} {E : QX} (hl : x.length ≤ LTX) (ha : a ≤ x.length) (h : Q (.int (endOf notNl x a : Nat)) M) : sp_line_end [.str x, .int a] M Q E := by
  refine ⟨rfl, ?_⟩
  unfold rd_line_end
  conv => whnf
  refine ⟨rfl, ?_⟩
  conv => whnf
  rcases find_nl ha with ⟨e, e2⟩ | e
  · rw [e]
    conv => whnf
    refine ⟨lt_size hl, ?_⟩
    conv => whnf
    rw [← e2]
    exact h
  · rw [e]
    rw [decide_eq_false (by omega)]
    conv => whnf
    exact h
/-! ### where a text ends -/
def txEnd : List Nat → Option Nat
  | [] => none
  | c :: r => if c = 10 then none else if c = 34 then (match r with
    | d :: r' => if d = 34 then (txEnd r').map (· + 2) else some 0
    | [] => some 0) else (txEnd r).map (· + 1)
theorem txEnd_lt : ∀ (l : List Nat) (k : Nat), txEnd l = some k → k < l.length
  | [], k, h => by unfold txEnd at h; cases h
  | c :: r, k, h => by
    unfold txEnd at h
    split at h
    · cases h
    · split at h
      · cases r with
        | nil => cases h; simp
        | cons d r' =>
          dsimp only at h
          split at h
          · obtain ⟨k', e, rfl⟩ := Option.map_eq_some_iff.mp h
            have := txEnd_lt r' k' e
            simp only [List.length_cons]
            omega
          · cases h; simp
      · obtain ⟨k', e, rfl⟩ := Option.map_eq_some_iff.mp h
        have := txEnd_lt r k' e
        simp only [List.length_cons]
        omega
theorem cut_one (x : List Nat) (b : Nat) : cut x (some ((b : Int) + 1)) (some ((b : Int) + 2)) = (x.drop (b + 1)).take 1 := by
  have e1 : ((b : Int) + 1) = ((b + 1 : Nat) : Int) := by omega
  have e2 : ((b : Int) + 2) = ((b + 2 : Nat) : Int) := by omega
  rw [e1, e2]
  unfold cut
  rw [HT.sIx_nat, HT.sIx_nat]
  by_cases h : b + 2 ≤ x.length
  · rw [Nat.min_eq_left h, Nat.min_eq_left (by omega)]
    congr 1
    omega
  · by_cases h2 : b + 1 ≤ x.length
    · rw [Nat.min_eq_right (by omega), Nat.min_eq_left h2]
      have : x.length = b + 1 := by omega
      rw [List.drop_of_length_le (by omega)]
      simp
    · rw [Nat.min_eq_right (by omega), Nat.min_eq_right (by omega), List.drop_of_length_le (Nat.le_refl _), List.drop_of_length_le (by omega)]
      simp
/-- what text_end tells -/
def tEnd (x : List Nat) (a : Nat) : D := match txEnd (x.drop (a + 1)) with
  | some k => .int ((a + 1 + k : Nat) : Int)
  | none => .non
theorem u_text_end {x : List Nat} {a : Nat} {M : Mp} {Q : QK} {E : QX} (hl : x.length ≤ LTX) (h : Q (tEnd x a) M) : sp_text_end [.str x, .int a] M Q E := by
  refine ⟨rfl, ?_⟩
  unfold rd_text_end
  conv => whnf
  refine while_inv (fun m ρ M' => M' = M ∧ ∃ b : Nat, ρ = [some (.str x), some (.int a), some (.int b)] ∧ (match txEnd (x.drop b) with
    | some k => tEnd x a = .int ((b + k : Nat) : Int)
    | none => tEnd x a = .non) ∧ m = x.length - b) (x.length - (a + 1)) ⟨rfl, a + 1, rfl, ?_, rfl⟩ ?_
  · unfold tEnd
    cases txEnd (x.drop (a + 1)) <;> rfl
  rintro m ρ M' ⟨rfl, b, rfl, he, rfl⟩
  conv => whnf
  refine ⟨lt_size hl, ?_⟩
  conv => whnf
  by_cases hlt : b < x.length
  · rw [decide_eq_true (show (b : Int) < (x.length : Int) by omega)]
    conv => whnf
    refine ⟨lt_size hl, ?_⟩
    rw [atN]
    obtain ⟨c, e1, e2⟩ := drop_get hlt
    rw [e1]
    conv => whnf
    rw [e2] at he
    unfold txEnd at he
    rw [show decide ([c] = tx "\n") = decide (c = 10) by rw [show tx "\n" = [10] by decide]; simp]
    by_cases h10 : c = 10
    · rw [decide_eq_true h10]
      conv => whnf
      rw [if_pos h10] at he
      rw [he] at h
      exact h
    · rw [decide_eq_false h10]
      conv => whnf
      refine ⟨Less _ _, fun _ _ z => z, ?_⟩
      rw [if_neg h10] at he
      conv => whnf
      refine ⟨lt_size hl, ?_⟩
      rw [atN, e1]
      conv => whnf
      rw [show decide ([c] = tx "\"") = decide (c = 34) by rw [show tx "\"" = [34] by decide]; simp]
      by_cases h34 : c = 34
      · rw [decide_eq_true h34]
        conv => whnf
        refine ⟨lt_size hl, ?_⟩
        rw [cut_one]
        conv => whnf
        rw [if_pos h34] at he
        rw [show tx "\"" = [34] by decide]
        cases hr : x.drop (b + 1) with
        | nil =>
          rw [hr] at he
          conv => whnf
          have he : tEnd x a = .int ((b + 0 : Nat) : Int) := he
          rw [he] at h
          exact h
        | cons d r' =>
          rw [hr] at he
          dsimp only at he
          rw [show decide ((d :: r').take 1 = [34]) = decide (d = 34) by simp]
          by_cases hd : d = 34
          · rw [decide_eq_true hd]
            rw [if_pos hd] at he
            conv => whnf
            refine ⟨x.length - (b + 2), by omega, rfl, b + 2, ?_, ?_, rfl⟩
            · show [some (D.str x), some (D.int a), some (D.int ((b : Int) + 1 + 1))] = _
              rw [show (b : Int) + 1 + 1 = ((b + 2 : Nat) : Int) by omega]
            · have e3 : x.drop (b + 2) = r' := by
                have : x.drop (b + 2) = (x.drop (b + 1)).drop 1 := by rw [List.drop_drop]
                rw [this, hr]
                rfl
              rw [e3]
              cases hk : txEnd r' with
              | none => rw [hk] at he; exact he
              | some k =>
                rw [hk] at he
                have he : tEnd x a = .int ((b + (k + 2) : Nat) : Int) := he
                show tEnd x a = .int ((b + 2 + k : Nat) : Int)
                rw [he]
                congr 1
                omega
          · rw [decide_eq_false hd]
            rw [if_neg hd] at he
            conv => whnf
            have he : tEnd x a = .int ((b + 0 : Nat) : Int) := he
            rw [he] at h
            exact h
      · rw [decide_eq_false h34]
        rw [if_neg h34] at he
        conv => whnf
        refine ⟨x.length - (b + 1), by omega, rfl, b + 1, rfl, ?_, rfl⟩
        cases hk : txEnd (x.drop (b + 1)) with
        | none => rw [hk] at he; exact he
        | some k =>
          rw [hk] at he
          have he : tEnd x a = .int ((b + (k + 1) : Nat) : Int) := he
          show tEnd x a = .int ((b + 1 + k : Nat) : Int)
          rw [he]
          congr 1
          omega
  · rw [decide_eq_false (show ¬ (b : Int) < (x.length : Int) by omega)]
    conv => whnf
    rw [List.drop_of_length_le (by omega)] at he
    unfold txEnd at he
    have he : tEnd x a = .non := he
    rw [he] at h
    exact h
/-! ### words -/
def strW (w : List Nat) : Option (D × D) := if isIntW w = true then some (.str (tx "int"), .int (wordVal w)) else if isSym w = true then some (.str (tx "symbol"), .str w) else none
theorem isIntW_facts {w : List Nat} (h : isIntW w = true) : PySem.intText? ⟨w.toArray⟩ = some (wordVal w) ∧ w.length ≤ 19 := by
  unfold isIntW at h
  simp only [Bool.and_eq_true, decide_eq_true_eq] at h
  obtain ⟨⟨⟨⟨⟨h1, h2⟩, h3⟩, _⟩, _⟩, _⟩ := h
  exact int_word h1 h3 h2
theorem u_stretch_word {w : List Nat} {line : Int} {M : Mp} {Q : QK} {E : QX} (hl : w.length ≤ LTX) (h : ∀ M', MExt M M' → match strW w with
    | some p => Q (.tup [p.1, p.2]) M'
    | none => E C_BadText [("line", .int line)] M') : sp_stretch_word [.str w, .int line] M Q E := by
  refine ⟨rfl, ?_⟩
  have h1 := @u_is_integer_word
  have h2 := @u_is_symbol
  unfold rd_stretch_word
  generalize sp_is_integer_word = s1 at h1 ⊢
  generalize sp_is_symbol = s2 at h2 ⊢
  conv => whnf
  refine h1 hl fun M1 k1 => ?_
  unfold strW at h
  cases hi : isIntW w
  · rw [hi] at h
    rw [if_neg Bool.false_ne_true] at h
    conv => whnf
    refine h2 hl fun M2 k2 => ?_
    have h := h M2 (k1.trans k2)
    cases hs : isSym w
    · rw [hs] at h
      rw [if_neg Bool.false_ne_true] at h
      conv => whnf
      exact h
    · rw [hs] at h
      rw [if_pos rfl] at h
      conv => whnf
      exact ⟨sz 2 (by decide), h⟩
  · rw [hi] at h
    rw [if_pos rfl] at h
    obtain ⟨iv, il⟩ := isIntW_facts hi
    conv => whnf
    refine ⟨wordVal w, iv, Nat.le_trans il (by decide), ?_⟩
    conv => whnf
    exact ⟨sz 2 (by decide), h M1 k1⟩
def isMark (c : Nat) : Bool := c == 40 || c == 41 || c == 39
theorem mark_in (c : Nat) : inF (.str [c]) D_MARKS = isMark c := by
  show (decide (tx "(" = [c]) || (decide (tx ")" = [c]) || (decide (tx "'" = [c]) || false))) = isMark c
  rw [show tx "(" = [40] by decide, show tx ")" = [41] by decide, show tx "'" = [39] by decide]
  have e : ∀ k : Nat, decide ([k] = [c]) = (c == k) := fun k => by
    by_cases z : c = k
    · subst z; simp
    · rw [decide_eq_false (by simpa using fun y => z y.symm)]
      simp [z]
  rw [e, e, e, Bool.or_false]
  unfold isMark
  rw [Bool.or_assoc]
/-- the word at the begin of a text: its sort, what it is worth, how many signs -/
def tokL : List Nat → Option ((D × D) × Nat)
  | [] => none
  | c :: r => if isSg c = true then (strW ((c :: r).take (spanL isSg (c :: r)))).map fun p => (p, spanL isSg (c :: r))
    else if isMark c = true then some ((.str (tx "mark"), .str [c]), 1)
    else if c = 34 then (txEnd r).map fun k => ((.str (tx "text"), .str (replD (r.take k) [34, 34] [34])), k + 2)
    else none
theorem tokL_cons (c : Nat) (r : List Nat) : tokL (c :: r) = if isSg c = true then (strW ((c :: r).take (spanL isSg (c :: r)))).map fun p => (p, spanL isSg (c :: r))
    else if isMark c = true then some ((.str (tx "mark"), .str [c]), 1)
    else if c = 34 then (txEnd r).map fun k => ((.str (tx "text"), .str (replD (r.take k) [34, 34] [34])), k + 2)
    else none := rfl
theorem sg_no {c : Nat} (h : isMark c = true ∨ c = 34 ∨ c = 10 ∨ c = 32 ∨ c = 59) : isSg c = false := by
  have e : ∀ c ∈ [40, 41, 39, 34, 10, 32, 59], isSg c = false := by decide
  refine e c ?_
  unfold isMark at h
  simp only [Bool.or_eq_true, beq_iff_eq] at h
  simp only [List.mem_cons, List.not_mem_nil, or_false]
  omega
theorem u_word_from {x : List Nat} {a : Nat} {line : Int} {M : Mp} {Q : QK} {E : QX} (hl : x.length ≤ LTX) (ha : a < x.length) (h : ∀ M', MExt M M' → match tokL (x.drop a) with
    | some (p, n) => Q (.tup [p.1, p.2, .int ((a + n : Nat) : Int)]) M'
    | none => E C_BadText [("line", .int line)] M') : sp_word_from [.str x, .int a, .int line] M Q E := by
  refine ⟨rfl, ?_⟩
  have h1 := @u_stretch_end
  have h2 := @u_stretch_word
  have h3 := @u_text_end
  unfold rd_word_from
  generalize sp_stretch_end = s1 at h1 ⊢
  generalize sp_stretch_word = s2 at h2 ⊢
  generalize sp_text_end = s3 at h3 ⊢
  conv => whnf
  refine h1 hl (Nat.le_of_lt ha) ?_
  conv => whnf
  obtain ⟨c, e1, e2⟩ := drop_get ha
  have hle := endOf_le (p := isSg) (Nat.le_of_lt ha)
  rw [e2, tokL_cons] at h
  cases hs : isSg c
  · have e3 := endOf_no e1 hs
    rw [hs, if_neg Bool.false_ne_true] at h
    rw [e3]
    rw [decide_eq_false (by omega)]
    conv => whnf
    refine ⟨lt_size hl, ?_⟩
    rw [atN, e1]
    conv => whnf
    refine ⟨rfl, rfl, ?_⟩
    rw [mark_in]
    cases hm : isMark c
    · rw [hm, if_neg Bool.false_ne_true] at h
      conv => whnf
      refine ⟨lt_size hl, ?_⟩
      rw [atN, e1]
      conv => whnf
      rw [show decide ([c] = tx "\"") = decide (c = 34) by rw [show tx "\"" = [34] by decide]; simp]
      by_cases h34 : c = 34
      · rw [if_pos h34] at h
        rw [decide_eq_true h34]
        conv => whnf
        refine h3 hl ?_
        conv => whnf
        unfold tEnd
        cases hk : txEnd (x.drop (a + 1)) with
        | none =>
          rw [hk] at h
          conv => whnf
          exact h M (MExt.refl M)
        | some k =>
          rw [hk] at h
          have hkl := txEnd_lt _ _ hk
          rw [List.length_drop] at hkl
          conv => whnf
          refine ⟨lt_size hl, ?_⟩
          rw [show (a : Int) + 1 = ((a + 1 : Nat) : Int) by omega, cut_nn x (a + 1) (a + 1 + k) (by omega) (by omega), show a + 1 + k - (a + 1) = k by omega]
          conv => whnf
          have hq := h M (MExt.refl M)
          refine ⟨?_, sz 3 (by decide), ?_⟩
          · have : ((x.drop (a + 1)).take k).length ≤ LTX := Nat.le_trans (by rw [List.length_take, List.length_drop]; omega) hl
            have e : LTX = 1000000 := rfl
            simp only [List.length_cons, List.length_nil]
            omega
          · have e : ((a + 1 + k : Nat) : Int) + 1 = ((a + (k + 2) : Nat) : Int) := by omega
            show Q (.tup [.str (tx "text"), .str (replD ((x.drop (a + 1)).take k) [34, 34] [34]), .int (((a + 1 + k : Nat) : Int) + 1)]) M
            rw [e]
            exact hq
      · rw [if_neg h34] at h
        rw [decide_eq_false h34]
        conv => whnf
        exact h M (MExt.refl M)
    · rw [hm, if_pos rfl] at h
      conv => whnf
      refine ⟨lt_size hl, ?_⟩
      rw [atN, e1]
      conv => whnf
      exact ⟨sz 3 (by decide), h M (MExt.refl M)⟩
  · rw [hs, if_pos rfl] at h
    have hn : spanL isSg (c :: x.drop (a + 1)) = endOf isSg x a - a := by
      unfold endOf
      rw [e2]
      omega
    have hgt : a < endOf isSg x a := by
      rw [endOf_yes e1 hs]
      unfold endOf
      omega
    rw [decide_eq_true (by omega)]
    conv => whnf
    refine ⟨lt_size hl, ?_⟩
    rw [cut_nn x a _ (Nat.le_of_lt ha) hle, e2]
    conv => whnf
    refine h2 (Nat.le_trans (by rw [List.length_take, List.length_cons, List.length_drop]; omega) hl) fun M' k' => ?_
    have h := h M' k'
    rw [hn] at h
    cases hw : strW ((c :: x.drop (a + 1)).take (endOf isSg x a - a)) with
    | none =>
      rw [hw] at h
      exact h
    | some p =>
      rw [hw] at h
      conv => whnf
      have e : a + (endOf isSg x a - a) = endOf isSg x a := by omega
      have h : Q (.tup [p.1, p.2, .int ((a + (endOf isSg x a - a) : Nat) : Int)]) M' := h
      rw [e] at h
      exact ⟨sz 1 (by decide), sz 3 (by decide), h⟩
/-! ### the words of a text -/
theorem tokL_pos {l : List Nat} {p : D × D} {k : Nat} (h : tokL l = some (p, k)) : 1 ≤ k ∧ k ≤ l.length := by
  cases l with
  | nil => cases h
  | cons c r =>
    rw [tokL_cons] at h
    split at h
    · rename_i hs
      obtain ⟨q, _, e⟩ := Option.map_eq_some_iff.mp h
      cases e
      have := spanL_le isSg (c :: r)
      rw [spanL_cons, if_pos hs] at this ⊢
      exact ⟨by omega, this⟩
    · split at h
      · cases h; simp
      · split at h
        · obtain ⟨q, hq, e⟩ := Option.map_eq_some_iff.mp h
          cases e
          have := txEnd_lt _ _ hq
          rw [List.length_cons]
          omega
        · cases h
def tok3 (p : D × D) (line : Int) : D := .tup [p.1, p.2, .int line]
def lexF : Nat → List Nat → Int → List D → Sum Int (List D)
  | 0, _, _, acc => .inr acc
  | _ + 1, [], _, acc => .inr acc
  | n + 1, c :: r, line, acc => if c = 59 then lexF n ((c :: r).drop (spanL notNl (c :: r))) line acc
    else if c = 10 then lexF n r (line + 1) acc
    else if c = 32 then lexF n r line acc
    else match tokL (c :: r) with
      | none => .inl line
      | some (p, k) => lexF n ((c :: r).drop k) line (acc ++ [tok3 p line])
theorem span_note (r : List Nat) : spanL notNl (59 :: r) = spanL notNl r + 1 := by
  rw [spanL_cons, if_pos (by decide)]
theorem lexF_fuel : ∀ (n m : Nat) (l : List Nat) (line : Int) (acc : List D), l.length ≤ n → l.length ≤ m → lexF n l line acc = lexF m l line acc
  | 0, m, l, line, acc, h1, h2 => by
    have : l = [] := List.length_eq_zero_iff.mp (by omega)
    subst this
    cases m <;> rfl
  | n + 1, 0, l, line, acc, h1, h2 => by
    have : l = [] := List.length_eq_zero_iff.mp (by omega)
    subst this
    rfl
  | n + 1, m + 1, [], line, acc, h1, h2 => rfl
  | n + 1, m + 1, c :: r, line, acc, h1, h2 => by
    have h1 : r.length ≤ n := by simpa using h1
    have h2 : r.length ≤ m := by simpa using h2
    unfold lexF
    split
    · rename_i h
      subst h
      have : ((59 :: r).drop (spanL notNl (59 :: r))).length ≤ r.length := by
        rw [span_note, List.drop_succ_cons, List.length_drop]
        omega
      exact lexF_fuel n m _ _ _ (by omega) (by omega)
    · split
      · exact lexF_fuel n m _ _ _ h1 h2
      · split
        · exact lexF_fuel n m _ _ _ h1 h2
        · cases ht : tokL (c :: r) with
          | none => rfl
          | some q =>
            obtain ⟨p, k⟩ := q
            have hp := tokL_pos ht
            have : ((c :: r).drop k).length ≤ r.length := by
              rw [List.length_drop, List.length_cons]
              omega
            exact lexF_fuel n m _ _ _ (by omega) (by omega)
def lex (l : List Nat) (line : Int) (acc : List D) : Sum Int (List D) := lexF l.length l line acc
theorem lex_nil (line : Int) (acc : List D) : lex [] line acc = .inr acc := rfl
theorem lex_cons (c : Nat) (r : List Nat) (line : Int) (acc : List D) : lex (c :: r) line acc = if c = 59 then lex ((c :: r).drop (spanL notNl (c :: r))) line acc
    else if c = 10 then lex r (line + 1) acc
    else if c = 32 then lex r line acc
    else match tokL (c :: r) with
      | none => .inl line
      | some (p, k) => lex ((c :: r).drop k) line (acc ++ [tok3 p line]) := by
  show lexF (r.length + 1) (c :: r) line acc = _
  unfold lexF
  split
  · rename_i h
    subst h
    refine lexF_fuel _ _ _ _ _ ?_ (Nat.le_refl _)
    rw [span_note, List.drop_succ_cons, List.length_drop]
    omega
  · split
    · rfl
    · split
      · rfl
      · cases ht : tokL (c :: r) with
        | none => rfl
        | some q =>
          obtain ⟨p, k⟩ := q
          have hp := tokL_pos ht
          refine lexF_fuel _ _ _ _ _ ?_ (Nat.le_refl _)
          rw [List.length_drop, List.length_cons]
          omega
/-- what a telling of words wants -/
def Wants (M : Mp) (Q : QK) (E : QX) : Sum Int (List D) → Prop
  | .inr ts => ∀ p M', M p = none → MExt M M' → M' p = some (.lst ts) → Q (.ref p) M'
  | .inl line => ∀ M', MExt M M' → E C_BadText [("line", .int line)] M'
theorem u_words {x : List Nat} {M : Mp} {Q : QK} {E : QX} (hl : x.length ≤ LTX) (h : Wants M Q E (lex x 1 [])) : sp_words [.str x] M Q E := by
  refine ⟨rfl, ?_⟩
  have h1 := @u_line_end
  have h2 := @u_word_from
  unfold rd_words
  generalize sp_line_end = s1 at h1 ⊢
  generalize sp_word_from = s2 at h2 ⊢
  conv => whnf
  refine ⟨Nat.zero_le _, fun p hp => ?_⟩
  conv => whnf
  refine ⟨sz 2 (by decide), ?_⟩
  conv => whnf
  refine ⟨rfl, ?_⟩
  conv => whnf
  refine while_inv (fun m ρ M' => ∃ (a : Nat) (line : Int) (acc : List D) (o4 o5 : Option D), ρ = [some (.str x), some (.ref p), some (.int a), some (.int line), o4, o5] ∧ a ≤ x.length ∧ acc.length ≤ a ∧ MExt M M' ∧ M' p = some (.lst acc) ∧ lex (x.drop a) line acc = lex x 1 [] ∧ m = x.length - a) x.length
    ⟨0, 1, [], none, none, rfl, Nat.zero_le _, Nat.le_refl _, MExt.new hp, updM_same, by simp, rfl⟩ ?_
  rintro m ρ M' ⟨a, line, acc, o4, o5, rfl, ha, hacc, hk, hM, hx, rfl⟩
  conv => whnf
  refine ⟨lt_size hl, ?_⟩
  conv => whnf
  by_cases hlt : a < x.length
  · rw [decide_eq_true (show (a : Int) < (x.length : Int) by omega)]
    conv => whnf
    refine ⟨Less _ _, fun _ _ z => z, ?_⟩
    conv => whnf
    refine ⟨lt_size hl, ?_⟩
    obtain ⟨c, e1, e2⟩ := drop_get hlt
    rw [atN, e1]
    conv => whnf
    rw [show decide ([c] = tx ";") = decide (c = 59) by rw [show tx ";" = [59] by decide]; simp]
    rw [e2, lex_cons] at hx
    by_cases h59 : c = 59
    · rw [decide_eq_true h59]
      rw [if_pos h59] at hx
      conv => whnf
      refine h1 hl (Nat.le_of_lt hlt) ?_
      conv => whnf
      have e3 : endOf notNl x a = a + spanL notNl (c :: x.drop (a + 1)) := by unfold endOf; rw [e2]
      have hge : a < endOf notNl x a := by
        rw [e3, h59, span_note]; omega
      refine ⟨x.length - endOf notNl x a, by omega, endOf notNl x a, line, acc, o4, o5, rfl, endOf_le (Nat.le_of_lt hlt), by omega, hk, hM, ?_, rfl⟩
      rw [← hx, e3, ← e2, List.drop_drop]
    · rw [decide_eq_false h59]
      rw [if_neg h59] at hx
      conv => whnf
      refine ⟨lt_size hl, ?_⟩
      rw [atN, e1]
      conv => whnf
      rw [show decide (c ∈ tx " \n") = decide (c = 32 ∨ c = 10) by rw [show tx " \n" = [32, 10] by decide]; simp]
      by_cases hsp : c = 32 ∨ c = 10
      · rw [decide_eq_true hsp]
        conv => whnf
        refine ⟨lt_size hl, ?_⟩
        rw [atN, e1]
        conv => whnf
        rw [show decide ([c] = tx "\n") = decide (c = 10) by rw [show tx "\n" = [10] by decide]; simp]
        by_cases h10 : c = 10
        · rw [decide_eq_true h10]
          rw [if_pos h10] at hx
          conv => whnf
          exact ⟨x.length - (a + 1), by omega, a + 1, line + 1, acc, o4, o5, rfl, hlt, by omega, hk, hM, hx, rfl⟩
        · rw [decide_eq_false h10]
          rw [if_neg h10, if_pos (hsp.resolve_right h10)] at hx
          conv => whnf
          exact ⟨x.length - (a + 1), by omega, a + 1, line, acc, o4, o5, by rw [show line + 0 = line from Int.add_zero line]; rfl, hlt, by omega, hk, hM, hx, rfl⟩
      · rw [decide_eq_false hsp]
        rw [if_neg fun z => hsp (.inr z), if_neg fun z => hsp (.inl z)] at hx
        conv => whnf
        refine h2 hl hlt fun M2 k2 => ?_
        rw [e2]
        cases ht : tokL (c :: x.drop (a + 1)) with
        | none =>
          rw [ht] at hx
          have hx : Sum.inl line = lex x 1 [] := hx
          rw [← hx] at h
          exact h M2 (hk.trans k2)
        | some q =>
          obtain ⟨q, k⟩ := q
          rw [ht] at hx
          have hx : lex ((c :: x.drop (a + 1)).drop k) line (acc ++ [tok3 q line]) = lex x 1 [] := hx
          have hp2 := tokL_pos ht
          rw [List.length_cons, List.length_drop] at hp2
          conv => whnf
          refine ⟨rfl, ?_⟩
          conv => whnf
          have hM2 := k2 _ _ hM
          refine ⟨by show tyO (M2 p) = some "list"; rw [hM2]; rfl, ?_⟩
          conv => whnf
          refine ⟨sz 3 (by decide), ?_⟩
          conv => whnf
          rw [hM2]
          conv => whnf
          refine ⟨?_, ?_⟩
          · have : PySem.sizeLine = 16777216 := PySem.sizeLine_eq
            have : LTX = 1000000 := rfl
            omega
          · refine ⟨x.length - (a + k), by omega, a + k, line, acc ++ [tok3 q line], some q.1, some q.2, rfl, by omega, by rw [List.length_append]; simp; omega, ?_, updM_same, ?_, rfl⟩
            · intro b o e
              have n : b ≠ p := fun z => by rw [z, hp] at e; cases e
              rw [updM_ne n]
              exact k2 b o (hk b o e)
            · rw [← hx, ← e2, List.drop_drop]
  · rw [decide_eq_false (show ¬ (a : Int) < (x.length : Int) by omega)]
    conv => whnf
    rw [List.drop_of_length_le (by omega), lex_nil] at hx
    rw [← hx] at h
    exact h p M' hp hk hM
end K01
end

section
set_option Elab.async false
set_option linter.all false
set_option maxRecDepth 100000
set_option maxHeartbeats 4000000
namespace K01
open DL L2
/-! ### draws -/
/-- the law's flow stands at p -/
def FlowAt (fc : PySem.Addr) (M : Mp) (p : PySem.Addr) : Prop := ∃ (cells : List Int) (at' pool seed : Int), M p = some (.lst [.ref fc, .int at', .int pool, .int seed]) ∧ M fc = some (.lst (cells.map D.int)) ∧ fc ≠ p ∧ 0 ≤ at' ∧ 0 ≤ pool
theorem FlowAt.ext {M M' : Mp} {fc p : PySem.Addr} (h : FlowAt fc M p) (e : MExt M M') : FlowAt fc M' p := by
  obtain ⟨cells, a, pl, sd, h1, h2, h3⟩ := h
  exact ⟨cells, a, pl, sd, e _ _ h1, e _ _ h2, h3⟩
theorem cm_r (i : Int) {j : Int} (h1 : -(2 ^ 64) < j) (h2 : j < 2 ^ 64) : CMul i j ∨ CMulW i j := .inl (.inr ⟨h1, h2⟩)
theorem cm_l {i : Int} (j : Int) (h1 : -(2 ^ 64) < i) (h2 : i < 2 ^ 64) : CMul i j ∨ CMulW i j := .inl (.inl ⟨h1, h2⟩)
theorem u_more {fc p : PySem.Addr} {M : Mp} {Q : QK} {E : QX} (f : FlowAt fc M p) (h : ∀ M', MOff p M M' → FlowAt fc M' p → Q .non M') : sp__law_more [.ref p] M Q E := by
  refine ⟨rfl, ?_⟩
  obtain ⟨cells, a, pl, sd, h1, h2, h3, h4, h5⟩ := f
  unfold rd__law_more
  have tail : ∀ cell : Int, qSeq (qAugS (qVar 0) (qC (.int 1)) (qC (.int 1)) rIadd)
    (qSeq (qIfS (qTest (qOp rGe (qVar 1) (qOp rPow (qC (.int 10)) (qC (.int 18))))) (qSeq (qAsg (qVar 1) (qgSub (qVar 0) (qC (.int 2))))
    qRetN) qNext)
    (qSeq (qSet 2 (qOp rMod (qCB rInt1 (qaCons (qOp DL.rAdd (qOp DL.rAdd (qOp DL.rAdd (qOp rMulW (qOp DL.rIx (qVar 0) (qC (.int 3))) (qC (.int 31))) (qOp rMulW (qCB rAbs (qaCons (qVar 1) qaNil)) (qC (.int 2)))) (qCB rInt1 (qaCons (qOp rLt (qVar 1) (qC (.int 0))) qaNil))) (qOp rMulW (qC (.int 7919)) (qOp DL.rIx (qVar 0) (qC (.int 1))))) qaNil)) (qC (.int 2147483629))))
    (qSeq (qSet 2 (qOp rMod (qCB rInt1 (qaCons (qOp DL.rAdd (qOp rMulW (qVar 2) (qC (.int 48271))) (qC (.int 11))) qaNil)) (qC (.int 2147483647))))
    (qSeq (qSet 3 (qOp rMod (qCB rInt1 (qaCons (qOp DL.rAdd (qOp rMulW (qVar 2) (qOp DL.rAdd (qOp rFdivW (qVar 2) (qC (.int 1009))) (qC (.int 69621)))) (qC (.int 7))) qaNil)) (qC (.int 2147483399))))
    (qSeq (qSet 4 (qOp rMod (qCB rInt1 (qaCons (qOp DL.rAdd (qOp rMulW (qVar 3) (qOp DL.rAdd (qOp rFdivW (qVar 3) (qC (.int 2003))) (qC (.int 40692)))) (qVar 2)) qaNil)) (qC (.int 2147483563))))
    (qSeq (qAsg (qVar 4) (qgSub (qVar 0) (qC (.int 3))))
    (qAsg (qOp DL.rAdd (qOp rMulW (qOp DL.rAdd (qOp rMulW (qVar 2) (qC (.int 2147483399))) (qVar 3)) (qC (.int 2147483563))) (qVar 4)) (qgSub (qVar 0) (qC (.int 2)))))))))) (endsD Q E) [some (.ref p), some (.int cell), none, none, none] M := by
    intro cell
    conv => whnf
    rw [h1]
    conv => whnf
    rw [h1]
    conv => whnf
    generalize hM1 : updM M p _ = M1
    have k1 : MOff p M M1 := by rw [← hM1]; exact MOff.upd
    have g1 : M1 p = some (.lst [.ref fc, .int (a + 1), .int pl, .int sd]) := by rw [← hM1]; exact updM_same
    have g2 : M1 fc = some (.lst (cells.map D.int)) := k1 fc _ h3 h2
    refine ⟨⟨by decide, by decide, by decide⟩, ?_⟩
    conv => whnf
    by_cases hc : (10 : Int) ^ (18 : Int).toNat ≤ cell
    · rw [decide_eq_true hc]
      conv => whnf
      rw [g1]
      conv => whnf
      refine h _ (k1.trans MOff.upd) ⟨cells, a + 1, cell, sd, updM_same, ?_, h3, by omega, ?_⟩
      · rw [updM_ne h3]; exact g2
      · exact Int.le_trans (by decide) hc
    · rw [decide_eq_false hc]
      conv => whnf
      rw [g1]
      conv => whnf
      refine ⟨cm_r _ (by decide) (by decide), ?_⟩
      conv => whnf
      refine ⟨cm_r _ (by decide) (by decide), ?_⟩
      conv => whnf
      rw [g1]
      conv => whnf
      refine ⟨cm_l _ (by decide) (by decide), ?_⟩
      conv => whnf
      refine ⟨by decide, ?_⟩
      generalize ho : (_ : Int) % 2147483629 = one
      have o1 : 0 ≤ one := by rw [← ho]; exact Int.emod_nonneg _ (by decide)
      conv => whnf
      refine ⟨cm_r _ (by decide) (by decide), ?_⟩
      conv => whnf
      refine ⟨by decide, ?_⟩
      generalize ho2 : (_ : Int) % 2147483647 = one'
      have o2 : 0 ≤ one' := by rw [← ho2]; exact Int.emod_nonneg _ (by decide)
      have o3 : one' < 2147483647 := by rw [← ho2]; exact Int.emod_lt_of_pos _ (by decide)
      conv => whnf
      refine ⟨⟨by decide, by decide⟩, ?_⟩
      conv => whnf
      refine ⟨cm_l _ (by omega) (by omega), ?_⟩
      conv => whnf
      refine ⟨by decide, ?_⟩
      generalize ho3 : (_ : Int) % 2147483399 = two
      have t2 : 0 ≤ two := by rw [← ho3]; exact Int.emod_nonneg _ (by decide)
      have t3 : two < 2147483399 := by rw [← ho3]; exact Int.emod_lt_of_pos _ (by decide)
      conv => whnf
      refine ⟨⟨by decide, by decide⟩, ?_⟩
      conv => whnf
      refine ⟨cm_l _ (by omega) (by omega), ?_⟩
      conv => whnf
      refine ⟨by decide, ?_⟩
      generalize ho4 : (_ : Int) % 2147483563 = three
      have u2 : 0 ≤ three := by rw [← ho4]; exact Int.emod_nonneg _ (by decide)
      conv => whnf
      rw [g1]
      conv => whnf
      generalize hM2 : updM M1 p _ = M2
      have k2 : MOff p M1 M2 := by rw [← hM2]; exact MOff.upd
      have j1 : M2 p = some (.lst [.ref fc, .int (a + 1), .int pl, .int three]) := by rw [← hM2]; exact updM_same
      refine ⟨cm_r _ (by decide) (by decide), ?_⟩
      conv => whnf
      refine ⟨cm_r _ (by decide) (by decide), ?_⟩
      conv => whnf
      rw [j1]
      conv => whnf
      refine h _ ((k1.trans k2).trans MOff.upd) ⟨cells, a + 1, _, three, updM_same, ?_, h3, by omega, ?_⟩
      · rw [updM_ne h3]; exact k2 fc _ h3 g2
      · have m1 : 0 ≤ one' * 2147483399 := Int.mul_nonneg o2 (by decide)
        have m2 : 0 ≤ (one' * 2147483399 + two) * 2147483563 := Int.mul_nonneg (by omega) (by decide)
        omega
  conv => whnf
  rw [h1]
  conv => whnf
  rw [h1]
  conv => whnf
  rw [h2]
  conv => whnf
  by_cases hlt : a < (cells.map D.int).length
  · rw [decide_eq_true hlt]
    conv => whnf
    rw [h1]
    conv => whnf
    rw [h1]
    conv => whnf
    rw [h2]
    conv => whnf
    obtain ⟨n, rfl⟩ : ∃ n : Nat, a = n := ⟨a.toNat, (Int.toNat_of_nonneg h4).symm⟩
    rw [atN, List.getElem?_map]
    have hn : n < cells.length := by simpa using hlt
    rw [List.getElem?_eq_getElem hn]
    exact tail _
  · rw [decide_eq_false hlt]
    exact tail 0
theorem u_draw {fc p : PySem.Addr} {n : Int} {M : Mp} {Q : QK} {E : QX} (f : FlowAt fc M p) (h0 : 0 < n) (h9 : n < 2 ^ 64) (h : ∀ d M', 0 ≤ d → d < n → MOff p M M' → FlowAt fc M' p → Q (.int d) M') : sp__law_draw [.ref p, .int n] M Q E := by
  refine ⟨rfl, ?_⟩
  have h1 := @u_more
  unfold rd__law_draw
  generalize sp__law_more = s1 at h1 ⊢
  have tail : ∀ M1, MOff p M M1 → FlowAt fc M1 p → qSeq (qSet 2 (qOp rMod (qCB rInt1 (qaCons (qOp DL.rIx (qVar 0) (qC (.int 2))) qaNil)) (qVar 1)))
    (qSeq (qAsg (qOp rFdivW (qOp DL.rIx (qVar 0) (qC (.int 2))) (qVar 1)) (qgSub (qVar 0) (qC (.int 2))))
    (qRet (qVar 2))) (endsD Q E) [some (.ref p), some (.int n), none] M1 := by
    intro M1 k1 f1
    obtain ⟨cells, a, pl, sd, g1, g2, g3, g4, g5⟩ := f1
    conv => whnf
    rw [g1]
    conv => whnf
    refine ⟨h0, ?_⟩
    conv => whnf
    rw [g1]
    conv => whnf
    refine ⟨⟨h0, ?_⟩, ?_⟩
    · have : n.natAbs < 2 ^ 64 := by omega
      exact Nat.lt_trans (PySem.Flt.log2_lt_of (by decide) this) (by decide)
    conv => whnf
    rw [g1]
    conv => whnf
    refine h _ _ (Int.emod_nonneg _ (by omega)) (Int.emod_lt_of_pos _ h0) (k1.trans MOff.upd) ⟨cells, a, _, sd, updM_same, ?_, g3, g4, Int.ediv_nonneg g5 (by omega)⟩
    rw [updM_ne g3]; exact g2
  obtain ⟨cells, a, pl, sd, g1, g2, g3, g4, g5⟩ := id f
  conv => whnf
  rw [g1]
  conv => whnf
  by_cases hlt : pl < n
  · rw [decide_eq_true hlt]
    conv => whnf
    exact h1 f fun M1 k1 f1 => tail M1 k1 f1
  · rw [decide_eq_false hlt]
    exact tail M (MOff.refl p M) f
end K01
end

section
set_option Elab.async false
set_option linter.all false
set_option maxRecDepth 100000
set_option maxHeartbeats 4000000
namespace K01
open DL L2
/-! ### the law's own cutter -/
def lawSigns : List Nat := tx "abcdefghijklmnopqrstuvwxyzABCDEFGHIJKLMNOPQRSTUVWXYZ0123456789+-*/=<>!?_"
theorem law_sg (c : Nat) : decide (c ∈ lawSigns) = isSg c := by
  have h1 : ∀ c ∈ lawSigns, isSg c = true := by decide +kernel
  have h2 : ∀ c ∈ tx "abcdefghijklmnopqrstuvwxyzABCDEFGHIJKLMNOPQRSTUVWXYZ+-*/=<>!?_", c ∈ lawSigns := by decide +kernel
  have h3 : ∀ c ∈ tx "0123456789", c ∈ lawSigns := by decide +kernel
  by_cases hc : c ∈ lawSigns
  · rw [decide_eq_true hc, h1 c hc]
  · rw [decide_eq_false hc]
    unfold isSg isLet isFig
    rw [decide_eq_false fun z => hc (h2 c z), decide_eq_false fun z => hc (h3 c z)]
    rfl
theorem u_signs {M : Mp} {Q : QK} {E : QX} (h : Q (.str lawSigns) M) : sp__law_signs [] M Q E := ⟨rfl, h⟩
theorem dig_ascii : ∀ c : Nat, c < 128 → PySem.Unicode.isDigit c = isFig c := by decide +kernel
def Asc (x : List Nat) : Prop := ∀ c ∈ x, c < 128
theorem isdigit_is {x : List Nat} (h : Asc x) : PySem.Txt.isdigit ⟨x.toArray⟩ = (decide (1 ≤ x.length) && x.all isFig) := by
  unfold PySem.Txt.isdigit
  rw [str_len]
  have e : (⟨x.toArray⟩ : PySem.Str).cps.all PySem.Unicode.isDigit = x.all isFig := by
    show x.toArray.all PySem.Unicode.isDigit = _
    rw [List.all_toArray]
    induction x with
    | nil => rfl
    | cons c r ih =>
      rw [List.all_cons, List.all_cons, dig_ascii c (h c (List.mem_cons_self ..)), ih fun d hd => h d (List.mem_cons_of_mem _ hd)]
  rw [e]
  cases x with
  | nil => rfl
  | cons c r => simp
theorem Asc.drop {x : List Nat} (h : Asc x) (n : Nat) : Asc (x.drop n) := fun c hc => h c (List.mem_of_mem_drop hc)
theorem Asc.take {x : List Nat} (h : Asc x) (n : Nat) : Asc (x.take n) := fun c hc => h c (List.mem_of_mem_take hc)
theorem Asc.bare {x : List Nat} (h : Asc x) : Asc (bareW x) := by
  unfold bareW
  split
  · exact h.drop 1
  · exact h
theorem u_number {w : List Nat} {M : Mp} {Q : QK} {E : QX} (hl : w.length ≤ LTX) (ha : Asc w) (h : Q (if isIntW w = true then .int (wordVal w) else .non) M) : sp__law_number [.str w] M Q E := by
  refine ⟨rfl, ?_⟩
  unfold rd__law_number
  conv => whnf
  refine ⟨lt_size hl, ?_⟩
  conv => whnf
  rw [cut_dash]
  have hbl := Nat.le_trans (bareW_len w) hl
  have hba := ha.bare
  have key : ∀ b : List Nat, bareW w = b → qSeq (qIfS (qOr (qNot (qTest (qBM0 "str" rIsdigit (qVar 1)))) (qOr (qTest (qOp rGt (qCB rLen (qaCons (qVar 1) qaNil)) (qC (.int 18)))) (qAnd (qTest (qOp rEqD (qOp DL.rIx (qVar 1) (qC (.int 0))) (qC (.str (tx "0"))))) (qTest (qOp rNeD (qVar 0) (qC (.str (tx "0")))))))) (qRet (qC .non)) qNext)
    (qSeq (qIfS (qOr (qTest (qOp rLt (qCB rInt1 (qaCons (qVar 0) qaNil)) (qUn rNeg (qOp rPow (qC (.int 2)) (qC (.int 59)))))) (qTest (qOp rGe (qCB rInt1 (qaCons (qVar 0) qaNil)) (qOp rPow (qC (.int 2)) (qC (.int 59)))))) (qRet (qC .non)) qNext)
    (qRet (qCB rInt1 (qaCons (qVar 0) qaNil)))) (endsD Q E) [some (.str w), some (.str b)] M := by
    intro b e
    unfold isIntW at h
    rw [e] at h hbl hba
    conv => whnf
    refine ⟨rfl, ?_⟩
    conv => whnf
    rw [isdigit_is hba]
    by_cases h1 : 1 ≤ b.length
    · rw [decide_eq_true h1] at h ⊢
      cases hf : b.all isFig
      · rw [hf] at h
        conv => whnf
        simpa using h
      · rw [hf] at h
        conv => whnf
        refine ⟨lt_size hbl, ?_⟩
        conv => whnf
        by_cases h18 : b.length ≤ 18
        · rw [decide_eq_true h18] at h
          rw [decide_eq_false (by omega)]
          conv => whnf
          refine ⟨lt_size hbl, ?_⟩
          cases b with
          | nil => simp at h1
          | cons c r =>
            rw [show (0 : Int) = ((0 : Nat) : Int) from rfl, atN]
            conv => whnf
            rw [List.head?_cons] at h
            obtain ⟨iv, il⟩ := int_word (w := w) (by rw [e]; exact h1) (by rw [e]; exact hf) (by rw [e]; exact h18)
            have il2 : w.length ≤ 640 := Nat.le_trans il (by decide)
            have tail : ∀ (R : Q (if (decide (LEASTv ≤ wordVal w) && decide (wordVal w ≤ MOSTv)) = true then .int (wordVal w) else .non) M), qSeq (qIfS (qOr (qTest (qOp rLt (qCB rInt1 (qaCons (qVar 0) qaNil)) (qUn rNeg (qOp rPow (qC (.int 2)) (qC (.int 59)))))) (qTest (qOp rGe (qCB rInt1 (qaCons (qVar 0) qaNil)) (qOp rPow (qC (.int 2)) (qC (.int 59)))))) (qRet (qC .non)) qNext)
                (qRet (qCB rInt1 (qaCons (qVar 0) qaNil))) (endsD Q E) [some (.str w), some (.str (c :: r))] M := by
              intro R
              conv => whnf
              refine ⟨_, iv, il2, ?_⟩
              conv => whnf
              refine ⟨⟨by decide, by decide, by decide⟩, ?_⟩
              conv => whnf
              have p59 : (2 : Int) ^ (59 : Int).toNat = 576460752303423488 := by decide
              rw [p59]
              by_cases x1 : wordVal w < -576460752303423488
              · rw [decide_eq_true x1]
                have x1' : ¬ LEASTv ≤ wordVal w := by unfold LEASTv; omega
                rw [decide_eq_false x1'] at R
                conv => whnf
                simpa using R
              · rw [decide_eq_false x1]
                have x1' : LEASTv ≤ wordVal w := by unfold LEASTv; omega
                rw [decide_eq_true x1'] at R
                conv => whnf
                refine ⟨_, iv, il2, ?_⟩
                conv => whnf
                refine ⟨⟨by decide, by decide, by decide⟩, ?_⟩
                conv => whnf
                rw [p59]
                by_cases x2 : (576460752303423488 : Int) ≤ wordVal w
                · rw [decide_eq_true x2]
                  have x2' : ¬ wordVal w ≤ MOSTv := by unfold MOSTv; omega
                  rw [decide_eq_false x2'] at R
                  conv => whnf
                  simpa using R
                · rw [decide_eq_false x2]
                  have x2' : wordVal w ≤ MOSTv := by unfold MOSTv; omega
                  rw [decide_eq_true x2'] at R
                  conv => whnf
                  exact ⟨_, iv, il2, show Q (.int (wordVal w)) M by simpa using R⟩
            rw [show decide ([c] = tx "0") = decide (c = 48) by rw [show tx "0" = [48] by decide]; simp]
            by_cases hz : c = 48
            · subst hz
              rw [decide_eq_true rfl]
              conv => whnf
              by_cases hw : w = [48]
              · rw [show decide (w = tx "0") = true by rw [show tx "0" = [48] by decide]; exact decide_eq_true hw]
                refine tail ?_
                rw [show (w == [48]) = true by simp [hw]] at h
                simpa using h
              · rw [show decide (w = tx "0") = false by rw [show tx "0" = [48] by decide]; exact decide_eq_false hw]
                rw [show (w == [48]) = false by simp [hw]] at h
                conv => whnf
                simpa using h
            · rw [decide_eq_false hz]
              refine tail ?_
              rw [show (some c != some 48) = true by simp [hz]] at h
              simpa using h
        · rw [decide_eq_false h18] at h
          rw [decide_eq_true (by omega)]
          conv => whnf
          simpa using h
    · rw [decide_eq_false h1] at h ⊢
      conv => whnf
      simpa using h
  by_cases hd : w.take 1 = [45]
  · rw [decide_eq_true hd]
    conv => whnf
    refine ⟨lt_size hl, ?_⟩
    rw [cut_rest]
    exact key _ (if_pos hd)
  · rw [decide_eq_false hd]
    exact key _ (if_neg hd)
/-- the triple of a stretch, or nothing -/
def strD (w : List Nat) (line : Int) : D := match strW w with
  | some p => tok3 p line
  | none => .non
theorem not_int {w : List Nat} (h : likeInt w = false) : isIntW w = false := by
  unfold isIntW
  unfold likeInt at h
  cases e : bareW w with
  | nil => simp
  | cons c r =>
    rw [e] at h
    have h : isFig c = false := h
    simp [List.all_cons, h]
theorem u_stretch {w : List Nat} {line : Int} {M : Mp} {Q : QK} {E : QX} (hl : w.length ≤ LTX) (ha : Asc w) (h1 : 1 ≤ w.length) (hs : w.all isSg = true) (h : Q (strD w line) M) : sp__law_stretch [.str w, .int line] M Q E := by
  refine ⟨rfl, ?_⟩
  have hn := @u_number
  unfold rd__law_stretch
  generalize sp__law_number = s1 at hn ⊢
  conv => whnf
  refine ⟨lt_size hl, ?_⟩
  conv => whnf
  rw [cut_dash]
  have hbl := Nat.le_trans (bareW_len w) hl
  have hba := ha.bare
  have key : ∀ b : List Nat, bareW w = b → qSeq (qIfS (qTest (qBM0 "str" rIsdigit (qSl (qVar 2) qoNone (qoSome (qC (.int 1)))))) (qSeq (qSet 3 (qCall s1 (qaCons (qVar 0) qaNil)))
    (qRet (qIf (qTest (qOp rIsN (qVar 3) (qC .non))) (qC .non) (qTup (qaCons (qC (.str (tx "int"))) (qaCons (qVar 3) (qaCons (qVar 1) qaNil))))))) qNext)
    (qRet (qIf (qTest (qOp rLe (qCB rLen (qaCons (qVar 0) qaNil)) (qC (.int 20)))) (qTup (qaCons (qC (.str (tx "symbol"))) (qaCons (qVar 0) (qaCons (qVar 1) qaNil)))) (qC .non))) (endsD Q E) [some (.str w), some (.int line), some (.str b), none] M := by
    intro b e
    rw [e] at hbl hba
    conv => whnf
    refine ⟨lt_size hbl, rfl, ?_⟩
    conv => whnf
    rw [show (some (1 : Int)) = some ((1 : Nat) : Int) from rfl, cut_0n, isdigit_is (hba.take 1)]
    have hk : (decide (1 ≤ (b.take 1).length) && (b.take 1).all isFig) = likeInt w := by
      unfold likeInt
      rw [e]
      cases b with
      | nil => rfl
      | cons c r => simp
    rw [hk]
    cases hli : likeInt w
    · conv => whnf
      refine ⟨lt_size hl, ?_⟩
      conv => whnf
      have es : strD w line = if w.length ≤ 20 then tok3 (.str (tx "symbol"), .str w) line else .non := by
        unfold strD strW
        rw [not_int hli, if_neg Bool.false_ne_true]
        unfold isSym
        rw [hli, hs, decide_eq_true h1]
        by_cases h20 : w.length ≤ 20
        · rw [decide_eq_true h20, if_pos h20]
          simp
        · rw [decide_eq_false h20, if_neg h20]
          simp
      rw [es] at h
      by_cases h20 : w.length ≤ 20
      · rw [decide_eq_true (by omega)]
        rw [if_pos h20] at h
        conv => whnf
        exact ⟨sz 3 (by decide), h⟩
      · rw [decide_eq_false (by omega)]
        rw [if_neg h20] at h
        exact h
    · conv => whnf
      refine hn hl ha ?_
      conv => whnf
      have es : strD w line = if isIntW w = true then tok3 (.str (tx "int"), .int (wordVal w)) line else .non := by
        unfold strD strW
        cases isIntW w
        · rw [if_neg Bool.false_ne_true]
          unfold isSym
          rw [hli]
          simp
        · simp
      rw [es] at h
      cases hi : isIntW w
      · rw [hi] at h
        conv => whnf
        exact h
      · rw [hi] at h
        conv => whnf
        exact ⟨sz 3 (by decide), h⟩
  by_cases hd : w.take 1 = [45]
  · rw [decide_eq_true hd]
    conv => whnf
    refine ⟨lt_size hl, ?_⟩
    rw [cut_rest]
    exact key _ (if_pos hd)
  · rw [decide_eq_false hd]
    exact key _ (if_neg hd)
theorem rng_at (lo : Int) (n i : Nat) (d : D) (h : (rng lo n)[i]? = some d) : d = .int (lo + i) ∧ i < n := by
  refine ⟨rng_get n lo i d h, ?_⟩
  have := (List.getElem?_eq_some_iff.mp h).1
  rw [rng_length] at this
  exact this
theorem u_end {x : List Nat} {a : Nat} {M : Mp} {Q : QK} {E : QX} (hl : x.length ≤ LTX) (ha : a < x.length) (h : Q (.int (endOf isSg x (a + 1) : Nat)) M) : sp__law_end [.str x, .int a] M Q E := by
  refine ⟨rfl, ?_⟩
  have h1 := @u_signs
  unfold rd__law_end
  generalize sp__law_signs = s1 at h1 ⊢
  have hLT : LTX = 1000000 := rfl
  conv => whnf
  refine ⟨lt_size hl, ?_⟩
  conv => whnf
  refine ⟨⟨by omega, by omega, by omega, by omega⟩, ?_⟩
  refine forL_inv (fun i ρ M' => M' = M ∧ (∃ o, ρ = [some (.str x), some (.int a), o]) ∧ endOf isSg x (a + 1 + i) = endOf isSg x (a + 1)) ?_ ?_ ⟨rfl, ⟨_, rfl⟩, rfl⟩
  · rintro i d ρ M' N hd ⟨rfl, ⟨o, rfl⟩, he⟩ hN
    obtain ⟨rfl, hi⟩ := rng_at _ _ _ _ hd
    have hi : i < x.length - (a + 1) := by omega
    refine ⟨trivial, ?_⟩
    conv => whnf
    refine ⟨lt_size hl, ?_⟩
    rw [show (a : Int) + 1 + (i : Int) = ((a + 1 + i : Nat) : Int) by omega, atN]
    obtain ⟨c, e1, e2⟩ := drop_get (x := x) (a := a + 1 + i) (by omega)
    rw [e1]
    conv => whnf
    refine h1 ?_
    conv => whnf
    rw [law_sg]
    cases hs : isSg c
    · conv => whnf
      rw [endOf_no e1 hs] at he
      rw [← he] at h
      exact h
    · conv => whnf
      refine hN _ _ ⟨rfl, ⟨_, rfl⟩, ?_⟩
      rw [← he, endOf_yes e1 hs]
      rfl
  · rintro ρ M' ⟨rfl, ⟨o, rfl⟩, he⟩
    refine ⟨trivial, ?_⟩
    conv => whnf
    refine ⟨lt_size hl, ?_⟩
    conv => whnf
    rw [rng_length] at he
    rw [endOf_out (by omega)] at he
    rw [← he] at h
    have e : a + 1 + ((x.length : Int) - ((a : Int) + 1)).toNat = x.length := by omega
    rw [e] at h
    exact h
theorem u_quote {x : List Nat} {a : Nat} {M : Mp} {Q : QK} {E : QX} (hl : x.length ≤ LTX) (h : Q (tEnd x a) M) : sp__law_quote [.str x, .int a] M Q E := by
  refine ⟨rfl, ?_⟩
  unfold rd__law_quote
  have hLT : LTX = 1000000 := rfl
  conv => whnf
  refine ⟨lt_size hl, ?_⟩
  conv => whnf
  refine ⟨by omega, by omega, ?_⟩
  refine forL_inv (fun i ρ M' => M' = M ∧ ∃ (b : Nat) (o : Option D), ρ = [some (.str x), some (.int a), some (.int b), o] ∧ i ≤ b ∧ (match txEnd (x.drop b) with
    | some k => tEnd x a = .int ((b + k : Nat) : Int)
    | none => tEnd x a = .non)) ?_ ?_ ⟨rfl, a + 1, _, rfl, Nat.zero_le _, ?_⟩
  · rintro i d ρ M' N hd ⟨rfl, b, o, rfl, hb, he⟩ hN
    obtain ⟨rfl, hi⟩ := rng_at _ _ _ _ hd
    refine ⟨trivial, ?_⟩
    conv => whnf
    refine ⟨lt_size hl, ?_⟩
    conv => whnf
    by_cases hlt : b < x.length
    · rw [decide_eq_false (show ¬ ((x.length : Int) ≤ (b : Int)) by omega)]
      conv => whnf
      refine ⟨lt_size hl, ?_⟩
      rw [atN]
      obtain ⟨c, e1, e2⟩ := drop_get hlt
      rw [e1]
      conv => whnf
      rw [e2] at he
      unfold txEnd at he
      rw [show decide ([c] = tx "\n") = decide (c = 10) by rw [show tx "\n" = [10] by decide]; simp]
      by_cases h10 : c = 10
      · rw [decide_eq_true h10]
        conv => whnf
        rw [if_pos h10] at he
        rw [he] at h
        exact h
      · rw [decide_eq_false h10]
        conv => whnf
        rw [if_neg h10] at he
        refine ⟨lt_size hl, ?_⟩
        rw [atN, e1]
        conv => whnf
        rw [show decide ([c] = tx "\"") = decide (c = 34) by rw [show tx "\"" = [34] by decide]; simp]
        by_cases h34 : c = 34
        · rw [decide_eq_true h34]
          conv => whnf
          refine ⟨lt_size hl, ?_⟩
          rw [cut_one]
          conv => whnf
          rw [if_pos h34] at he
          rw [show tx "\"" = [34] by decide]
          cases hr : x.drop (b + 1) with
          | nil =>
            rw [hr] at he
            conv => whnf
            have he : tEnd x a = .int ((b + 0 : Nat) : Int) := he
            rw [he] at h
            exact h
          | cons d r' =>
            rw [hr] at he
            dsimp only at he
            rw [show decide ((d :: r').take 1 = [34]) = decide (d = 34) by simp]
            by_cases hd : d = 34
            · rw [decide_eq_true hd]
              rw [if_pos hd] at he
              conv => whnf
              refine hN _ _ ⟨rfl, b + 2, some (.int (0 + (i : Int))), ?_, by omega, ?_⟩
              · show [some (D.str x), some (D.int a), some (D.int ((b : Int) + 1 + 1)), some (.int (0 + (i : Int)))] = _
                rw [show (b : Int) + 1 + 1 = ((b + 2 : Nat) : Int) by omega]
              · have e3 : x.drop (b + 2) = r' := by
                  have : x.drop (b + 2) = (x.drop (b + 1)).drop 1 := by rw [List.drop_drop]
                  rw [this, hr]
                  rfl
                rw [e3]
                cases hk : txEnd r' with
                | none => rw [hk] at he; exact he
                | some k =>
                  rw [hk] at he
                  have he : tEnd x a = .int ((b + (k + 2) : Nat) : Int) := he
                  show tEnd x a = .int ((b + 2 + k : Nat) : Int)
                  rw [he]
                  congr 1
                  omega
            · rw [decide_eq_false hd]
              rw [if_neg hd] at he
              conv => whnf
              have he : tEnd x a = .int ((b + 0 : Nat) : Int) := he
              rw [he] at h
              exact h
        · rw [decide_eq_false h34]
          rw [if_neg h34] at he
          conv => whnf
          refine hN _ _ ⟨rfl, b + 1, _, rfl, by omega, ?_⟩
          cases hk : txEnd (x.drop (b + 1)) with
          | none => rw [hk] at he; exact he
          | some k =>
            rw [hk] at he
            have he : tEnd x a = .int ((b + (k + 1) : Nat) : Int) := he
            show tEnd x a = .int ((b + 1 + k : Nat) : Int)
            rw [he]
            congr 1
            omega
    · rw [decide_eq_true (show ((x.length : Int) ≤ (b : Int)) by omega)]
      conv => whnf
      rw [List.drop_of_length_le (by omega)] at he
      have he : tEnd x a = .non := he
      rw [he] at h
      exact h
  · rintro ρ M' ⟨rfl, b, o, rfl, hb, he⟩
    refine ⟨trivial, ?_⟩
    rw [rng_length] at hb
    rw [List.drop_of_length_le (by omega)] at he
    have he : tEnd x a = .non := he
    rw [he] at h
    exact h
  · unfold tEnd
    cases txEnd (x.drop (a + 1)) <;> rfl
theorem span_all (p : Nat → Bool) : ∀ l : List Nat, (l.take (spanL p l)).all p = true
  | [] => rfl
  | c :: r => by
    rw [spanL_cons]
    by_cases h : p c = true
    · rw [if_pos h, List.take_succ_cons, List.all_cons, h, span_all p r]
      rfl
    · rw [if_neg h]
      rfl
/-- what the law's cutter is to tell -/
def CutW (M : Mp) (Q : QK) : Sum Int (List D) → Prop
  | .inr ts => ∀ p M', M p = none → MExt M M' → M' p = some (.lst ts) → Q (.tup [.str (tx "told"), .ref p]) M'
  | .inl line => ∀ M', MExt M M' → Q (.tup [.str (tx "bad"), .int line]) M'
theorem mark_tx (c : Nat) : decide (c ∈ tx "()'") = isMark c := by
  rw [show tx "()'" = [40, 41, 39] by decide]
  unfold isMark
  by_cases h1 : c = 40
  · subst h1; decide
  · by_cases h2 : c = 41
    · subst h2; decide
    · by_cases h3 : c = 39
      · subst h3; decide
      · rw [decide_eq_false (by simp [h1, h2, h3])]
        simp [h1, h2, h3]
theorem u_cut {x : List Nat} {M : Mp} {Q : QK} {E : QX} (hl : x.length ≤ LTX) (hA : Asc x) (h : CutW M Q (lex x 1 [])) : sp__law_cut [.str x] M Q E := by
  refine ⟨rfl, ?_⟩
  have h1 := @u_quote
  have h2 := @u_end
  have h3 := @u_stretch
  have h4 := @u_signs
  unfold rd__law_cut
  generalize sp__law_quote = s1 at h1 ⊢
  generalize sp__law_end = s2 at h2 ⊢
  generalize sp__law_stretch = s3 at h3 ⊢
  generalize sp__law_signs = s4 at h4 ⊢
  have hLT : LTX = 1000000 := rfl
  conv => whnf
  refine ⟨Nat.zero_le _, fun p hp => ?_⟩
  conv => whnf
  refine ⟨lt_size hl, ?_⟩
  conv => whnf
  refine ⟨by omega, by omega, ?_⟩
  refine forL_inv (fun i ρ M' => ∃ (a : Nat) (line : Int) (acc : List D) (o4 o5 o6 o7 o8 : Option D), ρ = [some (.str x), some (.ref p), some (.int a), some (.int line), o4, o5, o6, o7, o8] ∧ i ≤ a ∧ acc.length ≤ i ∧ MExt M M' ∧ M' p = some (.lst acc) ∧ lex (x.drop a) line acc = lex x 1 []) ?_ ?_
    ⟨0, 1, [], none, none, none, none, none, rfl, Nat.zero_le _, Nat.le_refl _, MExt.new hp, updM_same, by simp⟩
  · rintro i d ρ M' N hd ⟨a, line, acc, o4, o5, o6, o7, o8, rfl, hia, hacc, hk, hM, hx⟩ hN
    obtain ⟨rfl, hi⟩ := rng_at _ _ _ _ hd
    refine ⟨trivial, ?_⟩
    conv => whnf
    refine ⟨lt_size hl, ?_⟩
    conv => whnf
    by_cases hlt : a < x.length
    · rw [decide_eq_false (show ¬ ((x.length : Int) ≤ (a : Int)) by omega)]
      conv => whnf
      refine ⟨lt_size hl, ?_⟩
      rw [atN]
      obtain ⟨c, e1, e2⟩ := drop_get hlt
      rw [e1]
      conv => whnf
      rw [e2, lex_cons] at hx
      rw [show decide ([c] = tx "\n") = decide (c = 10) by rw [show tx "\n" = [10] by decide]; simp]
      by_cases h10 : c = 10
      · rw [decide_eq_true h10]
        rw [if_neg (by omega), if_pos h10] at hx
        conv => whnf
        exact hN _ _ ⟨a + 1, line + 1, acc, _, _, _, _, _, rfl, by omega, by omega, hk, hM, hx⟩
      · rw [decide_eq_false h10]
        conv => whnf
        rw [show decide ([c] = tx ";") = decide (c = 59) by rw [show tx ";" = [59] by decide]; simp]
        by_cases h59 : c = 59
        · rw [decide_eq_true h59]
          rw [if_pos h59] at hx
          conv => whnf
          refine ⟨rfl, ?_⟩
          conv => whnf
          have e3 : endOf notNl x a = a + spanL notNl (c :: x.drop (a + 1)) := by unfold endOf; rw [e2]
          have hge : a < endOf notNl x a := by
            rw [e3, h59, span_note]; omega
          have hx : lex (x.drop (endOf notNl x a)) line acc = lex x 1 [] := by
            rw [← hx, e3, ← e2, List.drop_drop]
          rcases find_nl (Nat.le_of_lt hlt) with ⟨e, e4⟩ | e
          · rw [e]
            conv => whnf
            refine ⟨lt_size hl, ?_⟩
            conv => whnf
            rw [← e4]
            exact hN _ _ ⟨endOf notNl x a, line, acc, _, _, _, _, _, rfl, by omega, by omega, hk, hM, hx⟩
          · rw [e, decide_eq_false (by omega)]
            conv => whnf
            exact hN _ _ ⟨endOf notNl x a, line, acc, _, _, _, _, _, rfl, by omega, by omega, hk, hM, hx⟩
        · rw [decide_eq_false h59]
          rw [if_neg h59, if_neg h10] at hx
          conv => whnf
          rw [show decide ([c] = tx " ") = decide (c = 32) by rw [show tx " " = [32] by decide]; simp]
          by_cases h32 : c = 32
          · rw [decide_eq_true h32]
            rw [if_pos h32] at hx
            conv => whnf
            exact hN _ _ ⟨a + 1, line, acc, _, _, _, _, _, rfl, by omega, by omega, hk, hM, hx⟩
          · rw [decide_eq_false h32]
            rw [if_neg h32, tokL_cons] at hx
            conv => whnf
            rw [mark_tx]
            cases hm : isMark c
            · conv => whnf
              rw [show decide ([c] = tx "\"") = decide (c = 34) by rw [show tx "\"" = [34] by decide]; simp]
              by_cases h34 : c = 34
              · rw [decide_eq_true h34]
                rw [sg_no (.inr (.inl h34)), if_neg Bool.false_ne_true, hm, if_neg Bool.false_ne_true, if_pos h34] at hx
                conv => whnf
                refine h1 hl ?_
                conv => whnf
                unfold tEnd
                cases hkk : txEnd (x.drop (a + 1)) with
                | none =>
                  rw [hkk] at hx
                  have hx : Sum.inl line = lex x 1 [] := hx
                  rw [← hx] at h
                  conv => whnf
                  exact ⟨sz 2 (by decide), h M' hk⟩
                | some k =>
                  rw [hkk] at hx
                  have hx : lex ((c :: x.drop (a + 1)).drop (k + 2)) line (acc ++ [tok3 (.str (tx "text"), .str (replD ((x.drop (a + 1)).take k) [34, 34] [34])) line]) = lex x 1 [] := hx
                  have hkl := txEnd_lt _ _ hkk
                  rw [List.length_drop] at hkl
                  conv => whnf
                  refine ⟨lt_size hl, ?_⟩
                  rw [show (a : Int) + 1 = ((a + 1 : Nat) : Int) by omega, cut_nn x (a + 1) (a + 1 + k) (by omega) (by omega), show a + 1 + k - (a + 1) = k by omega]
                  conv => whnf
                  have htx : ((x.drop (a + 1)).take k).length ≤ LTX := Nat.le_trans (by rw [List.length_take, List.length_drop]; omega) hl
                  rw [show (tx "\"" : List Nat) = [34] by decide, show (tx "\"\"" : List Nat) = [34, 34] by decide]
                  refine ⟨by simp only [List.length_cons, List.length_nil]; omega, sz 3 (by decide), ?_⟩
                  rw [show ((a + 1 + k : Nat) : Int) + 1 = ((a + (k + 2) : Nat) : Int) by omega]
                  conv => whnf
                  refine ⟨by show tyO (M' p) = some "list"; rw [hM]; rfl, ?_⟩
                  conv => whnf
                  rw [hM]
                  conv => whnf
                  refine ⟨by have : PySem.sizeLine = 16777216 := PySem.sizeLine_eq; omega, ?_⟩
                  refine hN _ _ ⟨a + (k + 2), line, acc ++ [tok3 (.str (tx "text"), .str (replD ((x.drop (a + 1)).take k) [34, 34] [34])) line], _, _, _, _, _, rfl, by omega, by rw [List.length_append]; simp; omega, ?_, updM_same, ?_⟩
                  · intro b o e
                    have n : b ≠ p := fun z => by rw [z, hp] at e; cases e
                    rw [updM_ne n]
                    exact hk b o e
                  · rw [← hx, ← e2, List.drop_drop]
              · rw [decide_eq_false h34]
                conv => whnf
                refine h4 ?_
                conv => whnf
                rw [law_sg]
                cases hs : isSg c
                · rw [hs, if_neg Bool.false_ne_true, hm, if_neg Bool.false_ne_true, if_neg h34] at hx
                  have hx : Sum.inl line = lex x 1 [] := hx
                  rw [← hx] at h
                  conv => whnf
                  exact ⟨sz 2 (by decide), h M' hk⟩
                · rw [hs, if_pos rfl] at hx
                  conv => whnf
                  refine h2 hl hlt ?_
                  conv => whnf
                  refine ⟨lt_size hl, ?_⟩
                  have hle := endOf_le (p := isSg) (x := x) (a := a + 1) hlt
                  have hge : a + 1 ≤ endOf isSg x (a + 1) := by unfold endOf; omega
                  rw [cut_nn x a _ (Nat.le_of_lt hlt) hle]
                  have hn : spanL isSg (c :: x.drop (a + 1)) = endOf isSg x (a + 1) - a := by
                    rw [← endOf_yes e1 hs]
                    unfold endOf
                    rw [e2]
                    omega
                  rw [hn] at hx
                  conv => whnf
                  refine h3 (Nat.le_trans (by rw [List.length_take, List.length_drop]; omega) hl) ((hA.drop a).take _) (by rw [List.length_take, List.length_drop]; omega) ?_ ?_
                  · rw [← hn, e2]
                    exact span_all isSg _
                  · conv => whnf
                    unfold strD
                    rw [e2]
                    cases hw : strW ((c :: x.drop (a + 1)).take (endOf isSg x (a + 1) - a)) with
                    | none =>
                      rw [hw] at hx
                      have hx : Sum.inl line = lex x 1 [] := hx
                      rw [← hx] at h
                      conv => whnf
                      exact ⟨sz 2 (by decide), h M' hk⟩
                    | some q =>
                      rw [hw] at hx
                      have hx : lex ((c :: x.drop (a + 1)).drop (endOf isSg x (a + 1) - a)) line (acc ++ [tok3 q line]) = lex x 1 [] := hx
                      rw [show endOf isSg x (a + 1) = a + (endOf isSg x (a + 1) - a) by omega]
                      have hk1 : 1 ≤ endOf isSg x (a + 1) - a := by omega
                      generalize endOf isSg x (a + 1) - a = k at *
                      conv => whnf
                      refine ⟨by show tyO (M' p) = some "list"; rw [hM]; rfl, ?_⟩
                      conv => whnf
                      rw [hM]
                      conv => whnf
                      refine ⟨by have : PySem.sizeLine = 16777216 := PySem.sizeLine_eq; omega, ?_⟩
                      refine hN _ _ ⟨a + (k), line, acc ++ [tok3 q line], _, _, _, _, _, rfl, by omega, by rw [List.length_append]; simp; omega, ?_, updM_same, ?_⟩
                      · intro b o e
                        have n : b ≠ p := fun z => by rw [z, hp] at e; cases e
                        rw [updM_ne n]
                        exact hk b o e
                      · rw [← hx, ← e2, List.drop_drop]
            · rw [sg_no (.inl hm), if_neg Bool.false_ne_true, hm, if_pos rfl] at hx
              have hx : lex ((c :: x.drop (a + 1)).drop 1) line (acc ++ [tok3 (.str (tx "mark"), .str [c]) line]) = lex x 1 [] := hx
              conv => whnf
              refine ⟨sz 3 (by decide), ?_⟩
              conv => whnf
              refine ⟨by show tyO (M' p) = some "list"; rw [hM]; rfl, ?_⟩
              conv => whnf
              rw [hM]
              conv => whnf
              refine ⟨by have : PySem.sizeLine = 16777216 := PySem.sizeLine_eq; omega, ?_⟩
              refine hN _ _ ⟨a + (1), line, acc ++ [tok3 (.str (tx "mark"), .str [c]) line], _, _, _, _, _, rfl, by omega, by rw [List.length_append]; simp; omega, ?_, updM_same, ?_⟩
              · intro b o e
                have n : b ≠ p := fun z => by rw [z, hp] at e; cases e
                rw [updM_ne n]
                exact hk b o e
              · rw [← hx, ← e2, List.drop_drop]
    · rw [decide_eq_true (show ((x.length : Int) ≤ (a : Int)) by omega)]
      conv => whnf
      rw [List.drop_of_length_le (by omega), lex_nil] at hx
      rw [← hx] at h
      exact ⟨sz 2 (by decide), h p M' hp hk hM⟩
  · rintro ρ M' ⟨a, line, acc, o4, o5, o6, o7, o8, rfl, hia, hacc, hk, hM, hx⟩
    refine ⟨trivial, ?_⟩
    rw [rng_length] at hia
    rw [List.drop_of_length_le (by omega), lex_nil] at hx
    rw [← hx] at h
    exact ⟨sz 2 (by decide), h p M' hp hk hM⟩
end K01
end

section
set_option Elab.async false
set_option linter.all false
set_option maxRecDepth 100000
set_option maxHeartbeats 4000000
namespace K01
open DL L2
/-! ### what is told -/
theorem u_told {x : List Nat} {M : Mp} {Q : QK} {E : QX} (hl : x.length ≤ LTX) (h : CutW M Q (lex x 1 [])) : sp__law_told [.str x] M Q E := by
  refine ⟨rfl, ?_⟩
  have h1 := @u_words
  unfold rd__law_told
  generalize sp_words = s1 at h1 ⊢
  conv => whnf
  refine h1 hl ?_
  cases hx : lex x 1 [] with
  | inr ts =>
    rw [hx] at h
    intro p M' hp hk hM
    conv => whnf
    refine ⟨sz 2 (by decide), ?_⟩
    conv => whnf
    exact h p M' hp hk hM
  | inl line =>
    rw [hx] at h
    intro M' hk
    conv => whnf
    intro a d hd
    cases d with
    | none => rcases hd with hd | hd <;> cases hd
    | some dd =>
      conv => whnf
      refine ⟨⟨rfl, rfl, rfl, by decide⟩, ?_⟩
      conv => whnf
      refine ⟨sz 2 (by decide), ?_⟩
      conv => whnf
      exact h M' hk
/-- what is no string -/
def NoStr (d : D) (M : Mp) : Prop := ∃ t, tyD M d = some t ∧ kitB t "str" = some false
theorem u_words_no {d : D} {M : Mp} {Q : QK} {E : QX} (hd : NoStr d M) (h : E C_NoText [] M) : sp_words [d] M Q E := by
  refine ⟨rfl, ?_⟩
  obtain ⟨t, h1, h2⟩ := hd
  unfold rd_words
  conv => whnf
  rw [h1]
  conv => whnf
  rw [h2]
  exact h
theorem u_told_no {d : D} {M : Mp} {Q : QK} {E : QX} (hd : NoStr d M) (h : Q (.tup [.str (tx "none"), .int 0]) M) : sp__law_told [d] M Q E := by
  refine ⟨rfl, ?_⟩
  have h1 := @u_words_no
  unfold rd__law_told
  generalize sp_words = s1 at h1 ⊢
  conv => whnf
  refine h1 hd ?_
  conv => whnf
  intro a d' hd'
  conv => whnf
  refine ⟨sz 2 (by decide), ?_⟩
  conv => whnf
  exact h
end K01
end

section
set_option Elab.async false
set_option linter.all false
set_option maxRecDepth 100000
set_option maxHeartbeats 4000000
namespace K01
open DL L2
/-! ### the pieces -/
theorem flow_ne {M : Mp} {fc p q : PySem.Addr} (f : FlowAt fc M p) (h : M q = none) : q ≠ p := fun z => by
  obtain ⟨cells, a, pl, sd, h1, _⟩ := f
  rw [z, h1] at h
  cases h
theorem nat_of {d : Int} (h : 0 ≤ d) : ∃ n : Nat, d = n := ⟨d.toNat, (Int.toNat_of_nonneg h).symm⟩
theorem u_inner {fc p : PySem.Addr} {M : Mp} {Q : QK} {E : QX} (f : FlowAt fc M p) (h : ∀ x M', x.length ≤ 8 → 10 ∉ x → MOff p M M' → FlowAt fc M' p → Q (.str x) M') : sp__law_inner [.ref p] M Q E := by
  refine ⟨rfl, ?_⟩
  have h1 := @u_draw
  unfold rd__law_inner
  generalize sp__law_draw = s1 at h1 ⊢
  conv => whnf
  refine h1 f (by decide) (by decide) fun d M1 hd0 hd1 k1 f1 => ?_
  obtain ⟨n, rfl⟩ := nat_of hd0
  conv => whnf
  refine ⟨by omega, by omega, ?_⟩
  refine forL_inv (fun i ρ M' => MOff p M M' ∧ FlowAt fc M' p ∧ ∃ (x : List Nat) (o : Option D), ρ = [some (.ref p), some (.str x), o] ∧ x.length = i ∧ 10 ∉ x) ?_ ?_ ⟨k1, f1, tx "", _, rfl, by decide, by decide⟩
  · rintro i d ρ M' N hd ⟨k2, f2, x, o, rfl, hx, hx10⟩ hN
    obtain ⟨rfl, hi⟩ := rng_at _ _ _ _ hd
    refine ⟨trivial, ?_⟩
    conv => whnf
    refine h1 f2 (by decide) (by decide) fun e M2 he0 he1 k3 f3 => ?_
    obtain ⟨e, rfl⟩ := nat_of he0
    conv => whnf
    refine ⟨sz _ (by decide), ?_⟩
    rw [atN]
    have hlt : e < (tx "\"; (')~a ,").length := by
      have : (tx "\"; (')~a ,").length = 10 := by decide
      omega
    obtain ⟨c, e1, _⟩ := drop_get hlt
    rw [e1]
    have hc : c ∈ tx "\"; (')~a ," := List.mem_of_getElem? e1
    have hc10 : c ≠ 10 := (by decide : ∀ c ∈ tx "\"; (')~a ,", c ≠ 10) c hc
    conv => whnf
    refine ⟨sz _ (by simp; omega), ?_⟩
    refine hN _ _ ⟨k2.trans k3, f3, x ++ [c], _, rfl, by simp [hx], ?_⟩
    simp [hx10, Ne.symm hc10]
  · rintro ρ M' ⟨k2, f2, x, o, rfl, hx, hx10⟩
    refine ⟨trivial, ?_⟩
    rw [rng_length] at hx
    exact h x M' (by omega) hx10 k2 f2
theorem sg_ascii {c : Nat} (h : isSg c = true) : c < 128 := by
  have h1 : ∀ c ∈ lawSigns, c < 128 := by decide +kernel
  rw [← law_sg] at h
  exact h1 c (of_decide_eq_true h)
theorem sgs_asc {w : List Nat} (h : w.all isSg = true) : Asc w := fun c hc => sg_ascii (List.all_eq_true.mp h c hc)
theorem law_all : ∀ c ∈ lawSigns, isSg c = true := by decide +kernel
def SymOk (w : List Nat) : Prop := 1 ≤ w.length ∧ w.length ≤ 20 ∧ w.all isSg = true ∧ likeInt w = false
theorem u_symbol {fc p : PySem.Addr} {M : Mp} {Q : QK} {E : QX} (f : FlowAt fc M p) (h : ∀ w M', SymOk w → MOff p M M' → FlowAt fc M' p → Q (.str w) M') : sp__law_symbol [.ref p] M Q E := by
  refine ⟨rfl, ?_⟩
  have h1 := @u_draw
  have h4 := @u_signs
  unfold rd__law_symbol
  generalize sp__law_draw = s1 at h1 ⊢
  generalize sp__law_signs = s4 at h4 ⊢
  conv => whnf
  refine h1 f (by decide) (by decide) fun d M1 hd0 hd1 k1 f1 => ?_
  obtain ⟨n, rfl⟩ := nat_of hd0
  conv => whnf
  refine ⟨sz _ (by decide), ?_⟩
  rw [atN]
  have hlt : n < (tx "abzAZ+*/=<>!?_-").length := by
    have : (tx "abzAZ+*/=<>!?_-").length = 15 := by decide
    omega
  obtain ⟨c0, e1, _⟩ := drop_get hlt
  rw [e1]
  have hc0 : c0 ∈ tx "abzAZ+*/=<>!?_-" := List.mem_of_getElem? e1
  have hc0s : isSg c0 = true := (by decide +kernel : ∀ c ∈ tx "abzAZ+*/=<>!?_-", isSg c = true) c0 hc0
  have hc0f : isFig c0 = false := (by decide +kernel : ∀ c ∈ tx "abzAZ+*/=<>!?_-", isFig c = false) c0 hc0
  conv => whnf
  refine ⟨sz 6 (by decide), fun q hq => ?_⟩
  have f1' := f1.ext (MExt.new (o := .lst [.int 0, .int 1, .int 2, .int 5, .int 19, .int 18]) hq)
  have qp := flow_ne f1 hq
  conv => whnf
  refine h1 f1' (by decide) (by decide) fun d2 M2 hd20 hd21 k2 f2 => ?_
  obtain ⟨m, rfl⟩ := nat_of hd20
  have hMq : M2 q = some (.lst [.int 0, .int 1, .int 2, .int 5, .int 19, .int 18]) := k2 _ _ qp updM_same
  have k12 : MOff p M M2 := (k1.trans (MExt.new hq).off).trans k2
  conv => whnf
  rw [hMq]
  conv => whnf
  rw [atN]
  obtain ⟨len, hlen, elen⟩ : ∃ len : Nat, len ≤ 19 ∧ ([D.int 0, D.int 1, D.int 2, D.int 5, D.int 19, D.int 18])[m]? = some (.int len) := by
    have hm : m < 6 := by omega
    match m, hm with
    | 0, _ => exact ⟨0, by omega, rfl⟩
    | 1, _ => exact ⟨1, by omega, rfl⟩
    | 2, _ => exact ⟨2, by omega, rfl⟩
    | 3, _ => exact ⟨5, by omega, rfl⟩
    | 4, _ => exact ⟨19, by omega, rfl⟩
    | 5, _ => exact ⟨18, by omega, rfl⟩
  rw [elen]
  conv => whnf
  refine ⟨by omega, by omega, ?_⟩
  refine forL_inv (fun i ρ M' => MOff p M M' ∧ FlowAt fc M' p ∧ ∃ (x : List Nat) (o : Option D), ρ = [some (.ref p), some (.str (c0 :: x)), o] ∧ x.length = i ∧ x.all isSg = true) ?_ ?_ ⟨k12, f2, [], _, rfl, rfl, rfl⟩
  · rintro i d ρ M' N hd ⟨k3, f3, x, o, rfl, hx, hxs⟩ hN
    obtain ⟨rfl, hi⟩ := rng_at _ _ _ _ hd
    refine ⟨trivial, ?_⟩
    conv => whnf
    refine h4 ?_
    conv => whnf
    refine h1 f3 (by decide) (by decide) fun e M4 he0 he1 k4 f4 => ?_
    obtain ⟨e, rfl⟩ := nat_of he0
    conv => whnf
    refine ⟨sz _ (by decide), ?_⟩
    rw [atN]
    have hlt2 : e < lawSigns.length := by
      have : lawSigns.length = 72 := by decide
      omega
    obtain ⟨c, e1, _⟩ := drop_get hlt2
    rw [e1]
    have hc := law_all c (List.mem_of_getElem? e1)
    conv => whnf
    refine ⟨sz _ (by simp; omega), ?_⟩
    refine hN _ _ ⟨k3.trans k4, f4, x ++ [c], _, rfl, by simp [hx], ?_⟩
    rw [List.all_append, hxs]
    simp [hc]
  · rintro ρ M' ⟨k3, f3, x, o, rfl, hx, hxs⟩
    refine ⟨trivial, ?_⟩
    rw [rng_length] at hx
    have hxl : x.length ≤ 19 := by omega
    conv => whnf
    refine ⟨sz _ (by simp; omega), ?_⟩
    rw [show (0 : Int) = ((0 : Nat) : Int) from rfl, atN]
    conv => whnf
    rw [show decide ([c0] = tx "-") = decide (c0 = 45) by rw [tx_dash]; simp]
    have plain : bareW (c0 :: x) = c0 :: x → SymOk (c0 :: x) := fun e => ⟨by simp, by simp; omega, by rw [List.all_cons, hc0s, hxs]; rfl, by unfold likeInt; rw [e]; exact hc0f⟩
    by_cases h45 : c0 = 45
    · rw [decide_eq_true h45]
      conv => whnf
      refine ⟨sz _ (by simp; omega), rfl, ?_⟩
      conv => whnf
      rw [show cut (c0 :: x) (some 1) (some 2) = x.take 1 from cut_one (c0 :: x) 0]
      rw [isdigit_is (((sgs_asc hxs).take 1))]
      cases x with
      | nil =>
        conv => whnf
        exact h _ M' ⟨by simp, by simp, by rw [List.all_cons, hc0s]; rfl, by subst h45; decide⟩ k3 f3
      | cons d x =>
        rw [List.all_cons] at hxs
        have hds : isSg d = true := (Bool.and_eq_true_iff.mp hxs).1
        have hxs : x.all isSg = true := (Bool.and_eq_true_iff.mp hxs).2
        have hb : bareW (c0 :: d :: x) = d :: x := by subst h45; rfl
        rw [show (decide (1 ≤ (List.take 1 (d :: x)).length) && (List.take 1 (d :: x)).all isFig) = isFig d by simp]
        cases hdf : isFig d
        · conv => whnf
          exact h _ M' ⟨by simp, by simp at hxl ⊢; omega, by rw [List.all_cons, List.all_cons, hc0s, hds, hxs]; rfl, by unfold likeInt; rw [hb]; exact hdf⟩ k3 f3
        · conv => whnf
          refine ⟨sz _ (by simp at hxl ⊢; omega), ?_⟩
          rw [show cut (c0 :: d :: x) (some 2) none = x from cut_n0 (c0 :: d :: x) 2]
          rw [show (tx "-a" : List Nat) = [45, 97] by decide]
          conv => whnf
          refine ⟨sz _ (by simp at hxl ⊢; omega), ?_⟩
          refine h _ M' ⟨by simp, by simp at hxl ⊢; omega, ?_, rfl⟩ k3 f3
          rw [List.all_append, hxs]
          decide
    · rw [decide_eq_false h45]
      refine h _ M' (plain ?_) k3 f3
      unfold bareW
      rw [if_neg (by simpa using h45)]
/-! ### blanks and notes -/
abbrev nl (x : List Nat) : Int := PyProof.Rows.cnt 10 x
theorem count_nl (x : List Nat) : PySem.Txt.count ⟨x.toArray⟩ ⟨(tx "\n").toArray⟩ = nl x := by
  rw [show (⟨(tx "\n").toArray⟩ : PySem.Str) = ⟨#[10]⟩ by decide, PyProof.Rows.count_cnt]
theorem nl_app (a b : List Nat) : nl (a ++ b) = nl a + nl b := PyProof.Rows.cnt_append 10 a b
theorem nl_free : ∀ {x : List Nat}, 10 ∉ x → nl x = 0
  | [], _ => rfl
  | c :: r, h => by
    unfold nl
    rw [PyProof.Rows.cnt_cons, if_neg (fun z => h (by rw [z]; exact List.mem_cons_self ..))]
    have := nl_free (x := r) fun z => h (List.mem_cons_of_mem _ z)
    unfold nl at this
    rw [this]
    rfl
inductive Blank : List Nat → Int → Prop
  | nil : Blank [] 0
  | sp {r : List Nat} {n : Int} (h : Blank r n) : Blank (32 :: r) n
  | nl {r : List Nat} {n : Int} (h : Blank r n) : Blank (10 :: r) (n + 1)
  | note {r : List Nat} {n : Int} (u : List Nat) (hu : u.all notNl = true) (h : Blank (10 :: r) n) : Blank (59 :: (u ++ 10 :: r)) n
theorem span_free {u r : List Nat} (h : u.all notNl = true) : spanL notNl (u ++ 10 :: r) = u.length := by
  induction u with
  | nil => rw [List.nil_append, spanL_cons]; rfl
  | cons c u ih =>
    rw [List.all_cons, Bool.and_eq_true] at h
    rw [List.cons_append, spanL_cons, if_pos h.1, ih h.2]
    rfl
theorem lex_note (u r : List Nat) (line : Int) (acc : List D) (h : u.all notNl = true) : lex (59 :: (u ++ 10 :: r)) line acc = lex (10 :: r) line acc := by
  rw [lex_cons, if_pos rfl, span_note, span_free h, List.drop_succ_cons, List.drop_left]
theorem lex_blank {S : List Nat} {n : Int} (h : Blank S n) : ∀ (R : List Nat) (line : Int) (acc : List D), lex (S ++ R) line acc = lex R (line + n) acc := by
  induction h with
  | nil => intro R line acc; rw [List.nil_append, Int.add_zero]
  | sp h ih => intro R line acc; rw [List.cons_append, lex_cons, if_neg (by decide), if_neg (by decide), if_pos rfl, ih]
  | nl h ih => intro R line acc; rw [List.cons_append, lex_cons, if_neg (by decide), if_pos rfl, ih]; congr 1; omega
  | note u hu h ih =>
    intro R line acc
    rw [List.cons_append, List.append_assoc, List.cons_append, lex_note u _ line acc hu]
    exact ih R line acc
theorem u_space {fc p : PySem.Addr} {M : Mp} {Q : QK} {E : QX} (f : FlowAt fc M p) (h : ∀ c S M', Blank (c :: S) (nl (c :: S)) → (c = 32 ∨ c = 10 ∨ c = 59) → S.length ≤ 20 → MOff p M M' → FlowAt fc M' p → Q (.str (c :: S)) M') : sp__law_space [.ref p] M Q E := by
  refine ⟨rfl, ?_⟩
  have h1 := @u_draw
  unfold rd__law_space
  generalize sp__law_draw = s1 at h1 ⊢
  conv => whnf
  refine ⟨sz 7 (by decide), fun q hq => ?_⟩
  have f1' := f.ext (MExt.new (o := .lst [.str (tx " "), .str (tx "\n"), .str (tx "  "), .str (tx " \n "), .str (tx "; a \" note ) '\n"), .str (tx ";\n\n"), .str (tx " ;;01\n")]) hq)
  have qp := flow_ne f hq
  conv => whnf
  refine h1 f1' (by decide) (by decide) fun d2 M2 hd20 hd21 k2 f2 => ?_
  obtain ⟨m, rfl⟩ := nat_of hd20
  have hMq : M2 q = some (.lst [.str (tx " "), .str (tx "\n"), .str (tx "  "), .str (tx " \n "), .str (tx "; a \" note ) '\n"), .str (tx ";\n\n"), .str (tx " ;;01\n")]) := k2 _ _ qp updM_same
  have k12 : MOff p M M2 := (MExt.new hq).off.trans k2
  conv => whnf
  rw [hMq]
  conv => whnf
  rw [atN]
  have hm : m < 7 := by omega
  match m, hm with
  | 0, _ => exact h 32 [] M2 (.sp .nil) (.inl rfl) (by decide) k12 f2
  | 1, _ => exact h 10 [] M2 (.nl .nil) (.inr (.inl rfl)) (by decide) k12 f2
  | 2, _ => exact h 32 [32] M2 (.sp (.sp .nil)) (.inl rfl) (by decide) k12 f2
  | 3, _ => exact h 32 [10, 32] M2 (.sp (.nl (.sp .nil))) (.inl rfl) (by decide) k12 f2
  | 4, _ => exact h 59 (tx " a \" note ) '" ++ [10]) M2 (.note (tx " a \" note ) '") (by decide) (.nl .nil)) (.inr (.inr rfl)) (by decide) k12 f2
  | 5, _ => exact h 59 ([] ++ [10, 10]) M2 (.note [] rfl (.nl (.nl .nil))) (.inr (.inr rfl)) (by decide) k12 f2
  | 6, _ => exact h 32 (59 :: ([59, 48, 49] ++ [10])) M2 (.sp (.note [59, 48, 49] (by decide) (.nl .nil))) (.inl rfl) (by decide) k12 f2
end K01
end

section
set_option Elab.async false
set_option linter.all false
set_option maxRecDepth 100000
set_option maxHeartbeats 4000000
namespace K01
open DL L2
open PySem PySem.StrLaws PySem.Builtin PySem.Builtin.Str
/-! ### doubling undone -/
theorem at_two (X : List Nat) (c k : Nat) : At ⟨X.toArray⟩ ⟨#[c, c]⟩ X.length k ↔ (X.drop k).take 2 = [c, c] := by
  show (k + 2 ≤ X.length ∧ subAt ⟨X.toArray⟩ ⟨#[c, c]⟩ k = true) ↔ _
  rw [subAt_eq, beq_iff_eq]
  show (k + 2 ≤ X.length ∧ (X.drop k).take 2 = [c, c]) ↔ _
  constructor
  · exact fun h => h.2
  · intro h
    refine ⟨?_, h⟩
    have := congrArg List.length h
    rw [List.length_take, List.length_drop] at this
    simp at this
    omega
theorem dbl_split (c : Nat) : ∀ r : List Nat, (c ∉ r ∧ dbl c r = r) ∨ ∃ u v, r = u ++ c :: v ∧ c ∉ u ∧ dbl c r = u ++ c :: c :: dbl c v
  | [] => .inl ⟨by simp, rfl⟩
  | k :: r => by
    by_cases h : k = c
    · subst h
      exact .inr ⟨[], r, rfl, by simp, by show (if k = k then _ else _) = _; rw [if_pos rfl]; rfl⟩
    · have e : dbl c (k :: r) = k :: dbl c r := by show (if k = c then _ else _) = _; rw [if_neg h]
      rcases dbl_split c r with ⟨h1, h2⟩ | ⟨u, v, h1, h2, h3⟩
      · exact .inl ⟨by simp [h1, Ne.symm h], by rw [e, h2]⟩
      · exact .inr ⟨k :: u, v, by rw [h1]; rfl, by simp [h2, Ne.symm h], by rw [e, h3]; rfl⟩
theorem dbl_none {c : Nat} {r : List Nat} (h : c ∉ r) : dbl c r = r := dbl_free c r h
theorem undo_run (c : Nat) (X : List Nat) : ∀ (cuts : List Nat) (a f : Nat) (r : List Nat), ChainG ⟨X.toArray⟩ ⟨#[c, c]⟩ X.length a cuts f → (∀ k, f ≤ k → ¬ At ⟨X.toArray⟩ ⟨#[c, c]⟩ X.length k) → X.drop a = dbl c r →
    (Str.join ⟨#[c]⟩ (partsFrom ⟨X.toArray⟩ 2 a cuts)).cps.toList = r
  | [], a, f, r, h, hn, e => by
    have e2 : f = a := h
    subst e2
    show (strSub ⟨X.toArray⟩ f X.length).cps.toList = r
    rw [strSub_toList]
    show (X.drop f).take (X.length - f) = r
    rw [List.take_of_length_le (by rw [List.length_drop]; exact Nat.le_refl _), e]
    rcases dbl_split c r with ⟨h1, h2⟩ | ⟨u, v, h1, h2, h3⟩
    · exact h2
    · exfalso
      refine hn (f + u.length) (by omega) ((at_two X c _).mpr ?_)
      rw [← List.drop_drop, e, h3, List.drop_left]
      rfl
  | d :: rest, a, f, r, h, hn, e => by
    obtain ⟨h1, h2, h3, h4⟩ := h
    have h2' := (at_two X c d).mp h2
    have step : partsFrom ⟨X.toArray⟩ 2 a (d :: rest) = strSub ⟨X.toArray⟩ a d :: partsFrom ⟨X.toArray⟩ 2 (d + 2) rest := rfl
    have gl : (Str.join ⟨#[c]⟩ (partsFrom ⟨X.toArray⟩ 2 a (d :: rest))).cps.toList = (strSub ⟨X.toArray⟩ a d).cps.toList ++ c :: (Str.join ⟨#[c]⟩ (partsFrom ⟨X.toArray⟩ 2 (d + 2) rest)).cps.toList := by
      rw [step]
      cases hp : partsFrom ⟨X.toArray⟩ 2 (d + 2) rest with
      | nil => cases rest <;> cases hp
      | cons q l =>
        show (strSub ⟨X.toArray⟩ a d ++ ⟨#[c]⟩ ++ Str.join ⟨#[c]⟩ (q :: l)).cps.toList = _
        simp only [Str.cps_append, Array.toList_append]
        simp
    rw [gl, strSub_toList]
    show (X.drop a).take (d - a) ++ _ = r
    have hd : X.drop d = (dbl c r).drop (d - a) := by rw [← e, List.drop_drop]; congr 1; omega
    rcases dbl_split c r with ⟨g1, g2⟩ | ⟨u, v, g1, g2, g3⟩
    · exfalso
      rw [hd, g2] at h2'
      have : c ∈ (r.drop (d - a)).take 2 := by rw [h2']; simp
      exact g1 (List.mem_of_mem_drop (List.mem_of_mem_take this))
    · have hdu : d = a + u.length := by
        have le : ¬ (a + u.length < d) := fun hlt => h3 (a + u.length) (by omega) hlt ((at_two X c _).mpr (by rw [← List.drop_drop, e, g3, List.drop_left]; rfl))
        have ge : ¬ (d < a + u.length) := fun hlt => by
          rw [hd, g3, List.drop_append_of_le_length (by omega)] at h2'
          have : c ∈ u := by
            cases hu : u.drop (d - a) with
            | nil =>
              have := congrArg List.length hu
              rw [List.length_drop] at this
              simp at this
              omega
            | cons k l =>
              rw [hu] at h2'
              have : k = c := by simpa using (List.cons.inj h2').1
              have hm : k ∈ u.drop (d - a) := by rw [hu]; exact List.mem_cons_self ..
              rw [this] at hm
              exact List.mem_of_mem_drop hm
          exact g2 this
        omega
      have hdr : X.drop (d + 2) = dbl c v := by
        have : X.drop (d + 2) = (X.drop d).drop 2 := by rw [List.drop_drop]
        rw [this, hd, g3, show d - a = u.length by omega, List.drop_left]
        rfl
      rw [undo_run c X rest (d + 2) f v h4 hn hdr, e, g3, show d - a = u.length by omega, List.take_left, g1]
theorem undouble (l : List Nat) : replD (dbl 34 l) [34, 34] [34] = l := by
  unfold replD Txt.replace
  have h20 : ((⟨[34, 34].toArray⟩ : Str).length == 0) = false := rfl
  rw [h20, Bool.false_and, Bool.or_false]
  show ((if (occurrences ⟨(dbl 34 l).toArray⟩ ⟨#[34, 34]⟩ 0 (⟨(dbl 34 l).toArray⟩ : Str).length ((⟨(dbl 34 l).toArray⟩ : Str).length + 1)).isEmpty = true then ⟨(dbl 34 l).toArray⟩ else glued ⟨[34].toArray⟩ (partsBetween ⟨(dbl 34 l).toArray⟩ (occurrences ⟨(dbl 34 l).toArray⟩ ⟨#[34, 34]⟩ 0 (⟨(dbl 34 l).toArray⟩ : Str).length ((⟨(dbl 34 l).toArray⟩ : Str).length + 1)) (⟨[34, 34].toArray⟩ : Str).length) : Str)).cps.toList = l
  obtain ⟨f, h1, h2⟩ := occ_tight ⟨(dbl 34 l).toArray⟩ ⟨#[34, 34]⟩ (by decide)
  have key := undo_run 34 (dbl 34 l) (occurrences ⟨(dbl 34 l).toArray⟩ ⟨#[34, 34]⟩ 0 (⟨(dbl 34 l).toArray⟩ : Str).length ((⟨(dbl 34 l).toArray⟩ : Str).length + 1)) 0 f l (by simpa [Str.length] using h1) (fun k hk => by simpa [Str.length] using h2 k hk) (by simp)
  cases ho : occurrences ⟨(dbl 34 l).toArray⟩ ⟨#[34, 34]⟩ 0 (⟨(dbl 34 l).toArray⟩ : Str).length ((⟨(dbl 34 l).toArray⟩ : Str).length + 1) with
  | nil =>
    rw [ho] at key
    rw [if_pos List.isEmpty_nil]
    have key : (strSub ⟨(dbl 34 l).toArray⟩ 0 (dbl 34 l).length).cps.toList = l := key
    rw [strSub_toList] at key
    show dbl 34 l = l
    simpa using key
  | cons d r =>
    rw [ho] at key
    rw [if_neg (by simp), glued_eq_join]
    rw [show partsBetween ⟨(dbl 34 l).toArray⟩ (d :: r) (⟨[34, 34].toArray⟩ : Str).length = partsFrom ⟨(dbl 34 l).toArray⟩ 2 0 (d :: r) from partsBetween_eq _ _ _]
    exact key
theorem txEnd_dbl : ∀ (l R : List Nat), 10 ∉ l → R.head? ≠ some 34 → txEnd (dbl 34 l ++ 34 :: R) = some (dbl 34 l).length
  | [], R, _, h => by
    show txEnd (34 :: R) = some 0
    unfold txEnd
    rw [if_neg (by decide), if_pos rfl]
    cases R with
    | nil => rfl
    | cons d r => dsimp only; rw [if_neg (by simpa using h)]
  | k :: l, R, h10, h => by
    have ih := txEnd_dbl l R (fun z => h10 (List.mem_cons_of_mem _ z)) h
    have hk : k ≠ 10 := fun z => h10 (by rw [z]; exact List.mem_cons_self ..)
    by_cases h34 : k = 34
    · subst h34
      have e : dbl 34 (34 :: l) = 34 :: 34 :: dbl 34 l := by show (if 34 = 34 then _ else _) = _; rw [if_pos rfl]
      rw [e]
      show txEnd (34 :: 34 :: (dbl 34 l ++ 34 :: R)) = _
      unfold txEnd
      rw [if_neg (by decide), if_pos rfl]
      dsimp only
      rw [if_pos rfl, ih]
      rfl
    · have e : dbl 34 (k :: l) = k :: dbl 34 l := by show (if k = 34 then _ else _) = _; rw [if_neg h34]
      rw [e]
      show txEnd (k :: (dbl 34 l ++ 34 :: R)) = _
      unfold txEnd
      rw [if_neg hk, if_neg h34, ih]
      rfl
theorem dbl_len (c : Nat) : ∀ l : List Nat, (dbl c l).length ≤ 2 * l.length
  | [] => Nat.le_refl _
  | k :: r => by
    have := dbl_len c r
    show (if k = c then k :: k :: dbl c r else k :: dbl c r).length ≤ _
    split <;> simp only [List.length_cons] <;> omega
theorem dbl_mem (c x : Nat) : ∀ l : List Nat, x ∈ dbl c l → x ∈ l
  | [], h => h
  | k :: r, h => by
    have h : x ∈ (if k = c then k :: k :: dbl c r else k :: dbl c r) := h
    split at h
    · rcases List.mem_cons.mp h with h | h
      · rw [h]; exact List.mem_cons_self ..
      · rcases List.mem_cons.mp h with h | h
        · rw [h]; exact List.mem_cons_self ..
        · exact List.mem_cons_of_mem _ (dbl_mem c x r h)
    · rcases List.mem_cons.mp h with h | h
      · rw [h]; exact List.mem_cons_self ..
      · exact List.mem_cons_of_mem _ (dbl_mem c x r h)
theorem repl_dbl (l : List Nat) : replD l (tx "\"") (tx "\"\"") = dbl 34 l := by
  rw [show (tx "\"" : List Nat) = [34] by decide, show (tx "\"\"" : List Nat) = [34, 34] by decide]
  exact replace_double ⟨l.toArray⟩ 34
end K01
end

section
set_option Elab.async false
set_option linter.all false
set_option maxRecDepth 100000
set_option maxHeartbeats 4000000
namespace K01
open DL L2
open PySem
/-! ### numbers -/
theorem numD_nat (n : Nat) : numD (n : Int) = TL.numL n := TL.tl_num n
theorem numD_neg {n : Nat} (h : 0 < n) : numD (-(n : Int)) = 45 :: TL.numL n := by
  unfold numD
  rw [← TL.tl_num n]
  have e : toString (-(n : Int)) = "-" ++ toString ((n : Nat) : Int) := by
    rw [PyProof.Rows.toString_neg (n := -(n : Int)) (by omega), show (0 : Int) - -(n : Int) = n by omega]
  show (Str.ofString (toString (-(n : Int)))).cps.toList = 45 :: (Str.ofString (toString ((n : Nat) : Int))).cps.toList
  rw [e, Str.ofString_eq_toList, Str.ofString_eq_toList]
  simp
theorem numL_head {n : Nat} (h : 0 < n) : ∃ c r, TL.numL n = c :: r ∧ 49 ≤ c ∧ c ≤ 57 := by
  induction n using Nat.strongRecOn with
  | _ n ih =>
    by_cases h10 : n < 10
    · exact ⟨48 + n, [], TL.numL_lt h10, by omega, by omega⟩
    · obtain ⟨c, r, e, h1, h2⟩ := ih (n / 10) (by omega) (by omega)
      exact ⟨c, r ++ [48 + n % 10], by rw [TL.numL_step (by omega), e]; rfl, h1, h2⟩
theorem numL_fig (n : Nat) : (TL.numL n).all isFig = true := List.all_eq_true.mpr fun c hc => isFig_iff.mpr (TL.numL_digits n c hc)
theorem fig_sg {c : Nat} (h : isFig c = true) : isSg c = true := by unfold isSg; rw [h, Bool.or_true]
theorem figs_sg {w : List Nat} (h : w.all isFig = true) : w.all isSg = true := List.all_eq_true.mpr fun c hc => fig_sg (List.all_eq_true.mp h c hc)
theorem fig_no45 {c : Nat} (h : isFig c = true) : c ≠ 45 := fun z => by rw [z] at h; exact absurd h (by decide)
theorem bare_plain {c : Nat} {r : List Nat} (h : c ≠ 45) : bareW (c :: r) = c :: r := by
  unfold bareW
  rw [if_neg (by simpa using h)]
theorem bare_dash (r : List Nat) : bareW (45 :: r) = r := rfl
def NumOk (w : List Nat) (i : Int) : Prop := strW w = some (.str (tx "int"), .int i) ∧ w.all isSg = true ∧ 1 ≤ w.length ∧ w.length ≤ 19
theorem num_ok {i : Int} (h1 : LEASTv ≤ i) (h2 : i ≤ MOSTv) : NumOk (numD i) i := by
  have h1' : -576460752303423488 ≤ i := h1
  have h2' : i ≤ 576460752303423487 := h2
  have bd : ∀ n : Nat, n ≤ 576460752303423488 → (TL.numL n).length ≤ 18 := fun n hn => TL.numL_len (by decide) (Nat.lt_of_le_of_lt hn (by decide))
  by_cases h0 : 0 ≤ i
  · obtain ⟨n, rfl⟩ := nat_of h0
    rw [numD_nat]
    have hl := bd n (by omega)
    have hc : ∃ c r, TL.numL n = c :: r ∧ isFig c = true ∧ (c = 48 → r = []) := by
      by_cases hn : 0 < n
      · obtain ⟨c, r, e, g1, g2⟩ := numL_head hn
        exact ⟨c, r, e, isFig_iff.mpr ⟨by omega, g2⟩, fun z => by omega⟩
      · have : n = 0 := by omega
        subst this
        exact ⟨48, [], TL.numL_lt (by decide), by decide, fun _ => rfl⟩
    obtain ⟨c, r, e, hf, hz⟩ := hc
    have hb : bareW (TL.numL n) = TL.numL n := by rw [e]; exact bare_plain (fig_no45 hf)
    have hv : wordVal (TL.numL n) = n := by
      unfold wordVal
      rw [if_neg (by rw [e]; simpa using fig_no45 hf), TL.numL_val]
    have hi : isIntW (TL.numL n) = true := by
      unfold isIntW
      rw [hb, hv, numL_fig, decide_eq_true hl, decide_eq_true h1, decide_eq_true h2, decide_eq_true (by rw [e]; simp)]
      rw [e, List.head?_cons]
      by_cases z : c = 48
      · rw [hz z, z]; rfl
      · simp [z]
    refine ⟨by unfold strW; rw [hi, if_pos rfl, hv], figs_sg (numL_fig n), by rw [e]; simp, by omega⟩
  · obtain ⟨n, hn, rfl⟩ : ∃ n : Nat, 0 < n ∧ i = -(n : Int) := ⟨i.natAbs, by omega, by omega⟩
    rw [numD_neg hn]
    have hl := bd n (by omega)
    obtain ⟨c, r, e, g1, g2⟩ := numL_head hn
    have hv : wordVal (45 :: TL.numL n) = -(n : Int) := by
      unfold wordVal
      rw [if_pos (by rfl), show (45 :: TL.numL n).drop 1 = TL.numL n from rfl, TL.numL_val]
    have hi : isIntW (45 :: TL.numL n) = true := by
      unfold isIntW
      rw [bare_dash, hv, numL_fig, decide_eq_true hl, decide_eq_true h1, decide_eq_true h2, decide_eq_true (by rw [e]; simp)]
      rw [e, List.head?_cons]
      have z : ¬ c = 48 := by omega
      simp [z]
    refine ⟨by unfold strW; rw [hi, if_pos rfl, hv], ?_, by simp, by simp; omega⟩
    rw [List.all_cons, figs_sg (numL_fig n)]
    decide
theorem sym_no_dig {w : List Nat} (h : SymOk w) : strW w = some (.str (tx "symbol"), .str w) := by
  obtain ⟨h1, h2, h3, h4⟩ := h
  unfold strW
  rw [not_int h4, if_neg Bool.false_ne_true]
  unfold isSym
  rw [h4, h3, decide_eq_true h1, decide_eq_true h2]
  rfl
/-! ### stretches in front of a rest -/
theorem span_word {w R : List Nat} (hw : w.all isSg = true) (hR : ∀ c, R.head? = some c → isSg c = false) : spanL isSg (w ++ R) = w.length := by
  induction w with
  | nil =>
    cases R with
    | nil => rfl
    | cons c r => rw [List.nil_append, spanL_cons, if_neg (by rw [hR c rfl]; exact Bool.false_ne_true)]; rfl
  | cons c w ih =>
    rw [List.all_cons, Bool.and_eq_true] at hw
    rw [List.cons_append, spanL_cons, if_pos hw.1, ih hw.2]
    rfl
theorem sg_ne {c : Nat} (h : isSg c = true) : c ≠ 59 ∧ c ≠ 10 ∧ c ≠ 32 ∧ c ≠ 34 ∧ isMark c = false := by
  have e : ∀ c ∈ lawSigns, c ≠ 59 ∧ c ≠ 10 ∧ c ≠ 32 ∧ c ≠ 34 ∧ isMark c = false := by decide +kernel
  rw [← law_sg] at h
  exact e c (of_decide_eq_true h)
/-- a stretch in front of a rest that begins with no sign -/
theorem lex_stretch {w R : List Nat} (line : Int) (acc : List D) (h1 : 1 ≤ w.length) (hw : w.all isSg = true) (hR : ∀ c, R.head? = some c → isSg c = false) :
    lex (w ++ R) line acc = match strW w with
      | none => .inl line
      | some p => lex R line (acc ++ [tok3 p line]) := by
  cases w with
  | nil => simp at h1
  | cons c w =>
    have hc : isSg c = true := by rw [List.all_cons, Bool.and_eq_true] at hw; exact hw.1
    obtain ⟨n1, n2, n3, n4, n5⟩ := sg_ne hc
    have hs := span_word hw hR
    rw [List.cons_append] at hs ⊢
    rw [lex_cons, if_neg n1, if_neg n2, if_neg n3, tokL_cons, if_pos hc, hs]
    rw [← List.cons_append, List.take_left]
    cases strW (c :: w) with
    | none => rfl
    | some p =>
      show lex ((c :: w ++ R).drop (c :: w).length) line _ = _
      rw [List.drop_left]
theorem lex_mark {c : Nat} (R : List Nat) (line : Int) (acc : List D) (h : isMark c = true) : lex (c :: R) line acc = lex R line (acc ++ [tok3 (.str (tx "mark"), .str [c]) line]) := by
  have hn : c ≠ 59 ∧ c ≠ 10 ∧ c ≠ 32 := by
    unfold isMark at h
    simp only [Bool.or_eq_true, beq_iff_eq] at h
    omega
  rw [lex_cons, if_neg hn.1, if_neg hn.2.1, if_neg hn.2.2, tokL_cons, sg_no (.inl h), if_neg Bool.false_ne_true, if_pos h]
  rfl
theorem lex_text {l R : List Nat} (line : Int) (acc : List D) (h : 10 ∉ l) (hR : R.head? ≠ some 34) : lex (34 :: (StrLaws.dbl 34 l ++ 34 :: R)) line acc = lex R line (acc ++ [tok3 (.str (tx "text"), .str l) line]) := by
  rw [lex_cons, if_neg (by decide), if_neg (by decide), if_neg (by decide), tokL_cons, if_neg (by decide), if_neg (by decide), if_pos rfl, txEnd_dbl l R h hR]
  show lex ((34 :: (StrLaws.dbl 34 l ++ 34 :: R)).drop ((StrLaws.dbl 34 l).length + 2)) line (acc ++ [tok3 (.str (tx "text"), .str (replD ((StrLaws.dbl 34 l ++ 34 :: R).take (StrLaws.dbl 34 l).length) [34, 34] [34])) line]) = _
  rw [List.take_left, undouble]
  congr 1
  have e : (34 :: (StrLaws.dbl 34 l ++ 34 :: R)).drop ((StrLaws.dbl 34 l).length + 2) = (StrLaws.dbl 34 l ++ 34 :: R).drop ((StrLaws.dbl 34 l).length + 1) := rfl
  rw [e, ← List.drop_drop, List.drop_left]
  rfl
end K01
end

section
set_option Elab.async false
set_option linter.all false
set_option maxRecDepth 100000
set_option maxHeartbeats 4000000
namespace K01
open DL L2
/-! ### a piece -/
inductive Srt where
  | mark | text | int | sym
def Srt.tx : Srt → List Nat
  | .mark => K01.tx "mark"
  | .text => K01.tx "text"
  | .int => K01.tx "int"
  | .sym => K01.tx "symbol"
/-- what may follow -/
def Safe : Option Srt → List Nat → Prop
  | none, _ => True
  | some .mark, _ => True
  | some .text, R => R.head? ≠ some 34
  | some .int, R => ∀ c, R.head? = some c → isSg c = false
  | some .sym, R => ∀ c, R.head? = some c → isSg c = false
def HeadOk : Srt → Nat → Prop
  | .mark, c => isMark c = true
  | .text, c => c = 34
  | .int, c => isSg c = true
  | .sym, c => isSg c = true
structure PieceOk (W : List Nat) (s : Srt) (V : D) : Prop where
  len : W.length ≤ 50
  free : 10 ∉ W
  head : ∃ c r, W = c :: r ∧ HeadOk s c
  lexes : ∀ R line acc, Safe (some s) R → lex (W ++ R) line acc = lex R line (acc ++ [tok3 (.str s.tx, V) line])
  worth : (∃ x, V = .str x) ∨ ∃ i, V = .int i
theorem piece_mark {c : Nat} (h : isMark c = true) : PieceOk [c] .mark (.str [c]) :=
  ⟨by simp, fun z => by simp at z; subst z; exact absurd h (by decide), ⟨c, [], rfl, h⟩, fun R line acc _ => lex_mark R line acc h, .inl ⟨_, rfl⟩⟩
theorem piece_text {x : List Nat} (h8 : x.length ≤ 8) (h : 10 ∉ x) : PieceOk (34 :: (PySem.StrLaws.dbl 34 x ++ [34])) .text (.str x) :=
  ⟨by have := dbl_len 34 x; simp; omega, fun z => by
      rcases List.mem_cons.mp z with z | z
      · exact absurd z (by decide)
      · rcases List.mem_append.mp z with z | z
        · exact h (dbl_mem 34 10 x z)
        · exact absurd z (by decide), ⟨34, _, rfl, rfl⟩, fun R line acc hR => by
      rw [List.cons_append, List.append_assoc]
      exact lex_text line acc h hR, .inl ⟨_, rfl⟩⟩
theorem all_free {w : List Nat} (h : w.all isSg = true) : 10 ∉ w := fun z => (sg_ne (List.all_eq_true.mp h 10 z)).2.1 rfl
theorem piece_int {i : Int} (h1 : LEASTv ≤ i) (h2 : i ≤ MOSTv) : PieceOk (numD i) .int (.int i) := by
  obtain ⟨a, b, c, d⟩ := num_ok h1 h2
  refine ⟨by omega, all_free b, ?_, fun R line acc hR => by rw [lex_stretch line acc c b hR, a]; rfl, .inr ⟨_, rfl⟩⟩
  cases h : numD i with
  | nil => rw [h] at c; simp at c
  | cons x r => rw [h, List.all_cons, Bool.and_eq_true] at b; exact ⟨x, r, rfl, b.1⟩
theorem piece_sym {w : List Nat} (h : SymOk w) : PieceOk w .sym (.str w) := by
  obtain ⟨h1, h2, h3, h4⟩ := id h
  refine ⟨by omega, all_free h3, ?_, fun R line acc hR => by rw [lex_stretch line acc h1 h3 hR, sym_no_dig h]; rfl, .inl ⟨_, rfl⟩⟩
  cases w with
  | nil => simp at h1
  | cons x r => rw [List.all_cons, Bool.and_eq_true] at h3; exact ⟨x, r, rfl, h3.1⟩
theorem log_small {i : Int} (h1 : -1152921504606846976 ≤ i) (h2 : i ≤ 1152921504606846976) : i.natAbs.log2 < 1920 := by
  have : i.natAbs < 2 ^ 64 := by omega
  exact Nat.lt_trans (PySem.Flt.log2_lt_of (by decide) this) (by decide)
theorem FlowAt.new {M : Mp} {fc p q : PySem.Addr} {o : MO} (f : FlowAt fc M p) (hq : M q = none) : FlowAt fc (updM M q o) p := f.ext (MExt.new hq)
theorem u_piece {fc p : PySem.Addr} {M : Mp} {Q : QK} {E : QX} (f : FlowAt fc M p) (h : ∀ W s V M', PieceOk W s V → MOff p M M' → FlowAt fc M' p → Q (.tup [.str W, .str s.tx, V]) M') : sp__law_piece [.ref p] M Q E := by
  refine ⟨rfl, ?_⟩
  have h1 := @u_draw
  have h2 := @u_inner
  have h3 := @u_symbol
  unfold rd__law_piece
  generalize sp__law_draw = s1 at h1 ⊢
  generalize sp__law_inner = s2 at h2 ⊢
  generalize sp__law_symbol = s3 at h3 ⊢
  conv => whnf
  refine h1 f (by decide) (by decide) fun d M1 hd0 hd1 k1 f1 => ?_
  obtain ⟨kind, rfl⟩ := nat_of hd0
  conv => whnf
  have hk : kind < 5 := by omega
  by_cases k0 : kind = 0
  · subst k0
    conv => whnf
    refine h1 f1 (by decide) (by decide) fun d M2 hd0 hd1 k2 f2 => ?_
    obtain ⟨n, rfl⟩ := nat_of hd0
    conv => whnf
    refine ⟨sz _ (by decide), ?_⟩
    rw [atN]
    have hlt : n < (tx "()'").length := by
      have : (tx "()'").length = 3 := by decide
      omega
    obtain ⟨c, e1, _⟩ := drop_get hlt
    rw [e1]
    have hm : isMark c = true := by
      rw [← mark_tx]
      exact decide_eq_true (List.mem_of_getElem? e1)
    conv => whnf
    exact ⟨sz 3 (by decide), h _ _ _ _ (piece_mark hm) (k1.trans k2) f2⟩
  rw [decide_eq_false (by omega)]
  conv => whnf
  by_cases k0 : kind = 1
  · subst k0
    conv => whnf
    refine h2 f1 fun x M2 hx8 hx10 k2 f2 => ?_
    conv => whnf
    rw [repl_dbl]
    have hdl := dbl_len 34 x
    refine ⟨by rw [show (tx "\"\"").length = 2 by decide]; omega, ?_⟩
    conv => whnf
    have hq1 : (tx "\"").length = 1 := by decide
    refine ⟨sz _ (by rw [hq1]; omega), ?_⟩
    conv => whnf
    refine ⟨sz _ (by rw [List.length_append, hq1]; omega), ?_⟩
    conv => whnf
    refine ⟨sz 3 (by decide), ?_⟩
    rw [show (tx "\"" : List Nat) = [34] by decide]
    exact h _ _ _ _ (piece_text hx8 hx10) (k1.trans k2) f2
  rw [decide_eq_false (by omega)]
  conv => whnf
  by_cases k0 : kind < 4
  · rw [decide_eq_true (by omega)]
    conv => whnf
    refine ⟨⟨by decide, by decide, by decide⟩, ?_⟩
    conv => whnf
    refine ⟨⟨by decide, by decide, by decide⟩, ?_⟩
    conv => whnf
    refine ⟨sz 4 (by decide), fun q hq => ?_⟩
    have qp := flow_ne f1 hq
    conv => whnf
    refine h1 (f1.new hq) (by decide) (by decide) fun d M2 hd20 hd21 k2 f2 => ?_
    obtain ⟨m, rfl⟩ := nat_of hd20
    have hMq := k2 _ _ qp updM_same
    have k2 := (k1.trans (MExt.new hq).off).trans k2
    conv => whnf
    rw [hMq]
    conv => whnf
    rw [atN]
    obtain ⟨top, ht0, ht1, et⟩ : ∃ top : Int, 0 < top ∧ top ≤ 1152921504606846976 ∧ [D.int 2, D.int 30, D.int (2 ^ Int.toNat 60), D.int (2 ^ Int.toNat 60)][m]? = some (.int top) := by
      have hm : m < 4 := by omega
      match m, hm with
      | 0, _ => exact ⟨2, by decide, by decide, rfl⟩
      | 1, _ => exact ⟨30, by decide, by decide, rfl⟩
      | 2, _ => exact ⟨2 ^ Int.toNat 60, by decide, by decide, rfl⟩
      | 3, _ => exact ⟨2 ^ Int.toNat 60, by decide, by decide, rfl⟩
    rw [et]
    conv => whnf
    refine h1 f2 ht0 (by omega) fun v M3 hv0 hv1 k3 f3 => ?_
    have k3 := k2.trans k3
    conv => whnf
    refine ⟨⟨by decide, by decide, by decide⟩, ?_⟩
    conv => whnf
    refine ⟨sz 3 (by decide), fun q3 hq3 => ?_⟩
    have qp3 := flow_ne f3 hq3
    conv => whnf
    refine h1 (f3.new hq3) (by decide) (by decide) fun d M4 hd30 hd31 k4 f4 => ?_
    obtain ⟨m3, rfl⟩ := nat_of hd30
    have hMq3 := k4 _ _ qp3 updM_same
    have k4 := (k3.trans (MExt.new hq3).off).trans k4
    conv => whnf
    rw [hMq3]
    conv => whnf
    rw [atN]
    have p59 : (2 : Int) ^ Int.toNat 59 = 576460752303423488 := by decide
    obtain ⟨u, hu0, hu1, eu⟩ : ∃ u : Int, -1152921504606846976 ≤ u ∧ u ≤ 1152921504606846976 ∧ [D.int v, D.int (v - 2 ^ Int.toNat 59), D.int (-v)][m3]? = some (.int u) := by
      have hm : m3 < 3 := by omega
      match m3, hm with
      | 0, _ => exact ⟨v, by omega, by omega, rfl⟩
      | 1, _ => exact ⟨v - 2 ^ Int.toNat 59, by omega, by omega, rfl⟩
      | 2, _ => exact ⟨-v, by omega, by omega, rfl⟩
    rw [eu]
    conv => whnf
    refine ⟨⟨by decide, by decide, by decide⟩, ?_⟩
    conv => whnf
    rw [p59]
    by_cases x1 : u < -576460752303423488
    · rw [decide_eq_true x1]
      conv => whnf
      refine ⟨⟨by decide, by decide, by decide⟩, ?_⟩
      conv => whnf
      refine ⟨⟨by decide, by decide, by decide⟩, ?_⟩
      conv => whnf
      refine ⟨sz 2 (by decide), fun q5 hq5 => ?_⟩
      conv => whnf
      refine ⟨by decide, ?_⟩
      conv => whnf
      rw [updM_same]
      conv => whnf
      obtain ⟨j, hj, ej⟩ : ∃ j : Nat, j < 2 ∧ u % 2 = j := ⟨(u % 2).toNat, by omega, by omega⟩
      rw [ej, atN]
      match j, hj with
      | 0, _ =>
        conv => whnf
        refine ⟨log_small (by decide) (by decide), ?_⟩
        conv => whnf
        exact ⟨sz 3 (by decide), h _ _ _ _ (piece_int (by decide) (by decide)) (k4.trans (MExt.new hq5).off) (f4.new hq5)⟩
      | 1, _ =>
        conv => whnf
        refine ⟨log_small (by decide) (by decide), ?_⟩
        conv => whnf
        exact ⟨sz 3 (by decide), h _ _ _ _ (piece_int (by decide) (by decide)) (k4.trans (MExt.new hq5).off) (f4.new hq5)⟩
    rw [decide_eq_false x1]
    conv => whnf
    refine ⟨⟨by decide, by decide, by decide⟩, ?_⟩
    conv => whnf
    rw [p59]
    by_cases x2 : 576460752303423488 ≤ u
    · rw [decide_eq_true x2]
      conv => whnf
      refine ⟨⟨by decide, by decide, by decide⟩, ?_⟩
      conv => whnf
      refine ⟨⟨by decide, by decide, by decide⟩, ?_⟩
      conv => whnf
      refine ⟨sz 2 (by decide), fun q5 hq5 => ?_⟩
      conv => whnf
      refine ⟨by decide, ?_⟩
      conv => whnf
      rw [updM_same]
      conv => whnf
      obtain ⟨j, hj, ej⟩ : ∃ j : Nat, j < 2 ∧ u % 2 = j := ⟨(u % 2).toNat, by omega, by omega⟩
      rw [ej, atN]
      match j, hj with
      | 0, _ =>
        conv => whnf
        refine ⟨log_small (by decide) (by decide), ?_⟩
        conv => whnf
        exact ⟨sz 3 (by decide), h _ _ _ _ (piece_int (by decide) (by decide)) (k4.trans (MExt.new hq5).off) (f4.new hq5)⟩
      | 1, _ =>
        conv => whnf
        refine ⟨log_small (by decide) (by decide), ?_⟩
        conv => whnf
        exact ⟨sz 3 (by decide), h _ _ _ _ (piece_int (by decide) (by decide)) (k4.trans (MExt.new hq5).off) (f4.new hq5)⟩
    rw [decide_eq_false x2]
    conv => whnf
    refine ⟨log_small hu0 hu1, ?_⟩
    conv => whnf
    have g1 : LEASTv ≤ u := by unfold LEASTv; omega
    have g2 : u ≤ MOSTv := by unfold MOSTv; omega
    exact ⟨sz 3 (by decide), h _ _ _ _ (piece_int g1 g2) k4 f4⟩
  rw [decide_eq_false (by omega)]
  conv => whnf
  refine h3 f1 fun w M2 hw k2 f2 => ?_
  conv => whnf
  exact ⟨sz 3 (by decide), h _ _ _ _ (piece_sym hw) (k1.trans k2) f2⟩
end K01
end

section
set_option Elab.async false
set_option linter.all false
set_option maxRecDepth 100000
set_option maxHeartbeats 4000000
namespace K01
open DL L2
/-! ### a fault -/
def Gap (R : List Nat) : Prop := ∃ c r, R = c :: r ∧ (c = 32 ∨ c = 10 ∨ c = 59)
theorem Gap.sg {R : List Nat} (h : Gap R) : ∀ c, R.head? = some c → isSg c = false := by
  obtain ⟨d, r, rfl, h⟩ := h
  intro c e
  cases e
  rcases h with h | h | h <;> subst h <;> decide
structure FaultOk (F : List Nat) : Prop where
  len : F.length ≤ 5100
  lexes : ∀ R line acc, Gap R → lex (F ++ R) line acc = .inl line
theorem fault_sign {c : Nat} (h : c ≠ 59 ∧ c ≠ 10 ∧ c ≠ 32 ∧ c ≠ 34 ∧ isSg c = false ∧ isMark c = false) : FaultOk [c] := by
  obtain ⟨h1, h2, h3, h4, h5, h6⟩ := h
  refine ⟨by simp, fun R line acc _ => ?_⟩
  show lex (c :: R) line acc = _
  rw [lex_cons, if_neg h1, if_neg h2, if_neg h3, tokL_cons, h5, if_neg Bool.false_ne_true, h6, if_neg Bool.false_ne_true, if_neg h4]
theorem txEnd_open : ∀ (l R : List Nat), 10 ∉ l → txEnd (PySem.StrLaws.dbl 34 l ++ 10 :: R) = none
  | [], R, _ => by
    show txEnd (10 :: R) = none
    unfold txEnd
    rw [if_pos rfl]
  | k :: l, R, h10 => by
    have ih := txEnd_open l R (fun z => h10 (List.mem_cons_of_mem _ z))
    have hk : k ≠ 10 := fun z => h10 (by rw [z]; exact List.mem_cons_self ..)
    by_cases h34 : k = 34
    · subst h34
      have e : PySem.StrLaws.dbl 34 (34 :: l) = 34 :: 34 :: PySem.StrLaws.dbl 34 l := by show (if 34 = 34 then _ else _) = _; rw [if_pos rfl]
      rw [e]
      show txEnd (34 :: 34 :: (PySem.StrLaws.dbl 34 l ++ 10 :: R)) = _
      unfold txEnd
      rw [if_neg (by decide), if_pos rfl]
      dsimp only
      rw [if_pos rfl, ih]
      rfl
    · have e : PySem.StrLaws.dbl 34 (k :: l) = k :: PySem.StrLaws.dbl 34 l := by show (if k = 34 then _ else _) = _; rw [if_neg h34]
      rw [e]
      show txEnd (k :: (PySem.StrLaws.dbl 34 l ++ 10 :: R)) = _
      unfold txEnd
      rw [if_neg hk, if_neg h34, ih]
      rfl
theorem fault_text {x : List Nat} (h8 : x.length ≤ 8) (h : 10 ∉ x) : FaultOk ([34] ++ PySem.StrLaws.dbl 34 x ++ [10]) := by
  refine ⟨by have := dbl_len 34 x; simp; omega, fun R line acc _ => ?_⟩
  rw [List.append_assoc, List.append_assoc]
  show lex (34 :: (PySem.StrLaws.dbl 34 x ++ 10 :: R)) line acc = _
  rw [lex_cons, if_neg (by decide), if_neg (by decide), if_neg (by decide), tokL_cons, if_neg (by decide), if_neg (by decide), if_pos rfl, txEnd_open x R h]
  rfl
theorem str_none {w : List Nat} (h1 : isIntW w = false) (h2 : isSym w = false) : strW w = none := by
  unfold strW
  rw [h1, h2, if_neg Bool.false_ne_true, if_neg Bool.false_ne_true]
theorem sym_like {w : List Nat} (h : likeInt w = true) : isSym w = false := by
  unfold isSym
  rw [h]
  simp
theorem fault_str {w : List Nat} (h1 : 1 ≤ w.length) (h2 : w.length ≤ 5100) (h3 : w.all isSg = true) (h4 : isIntW w = false) (h5 : isSym w = false) : FaultOk w :=
  ⟨h2, fun R line acc g => by rw [lex_stretch line acc h1 h3 g.sg, str_none h4 h5]⟩
theorem int_figs {w : List Nat} (h : (bareW w).all isFig = false) : isIntW w = false := by
  unfold isIntW
  rw [h]
  simp
theorem int_long {w : List Nat} (h : 18 < (bareW w).length) : isIntW w = false := by
  unfold isIntW
  rw [decide_eq_false (by omega : ¬ (bareW w).length ≤ 18)]
  simp
theorem not_figs {w : List Nat} {c : Nat} (h : c ∈ w) (hc : isFig c = false) : w.all isFig = false := by
  cases e : w.all isFig
  · rfl
  · have := List.all_eq_true.mp e c h
    rw [hc] at this
    cases this
theorem fault_big1 : FaultOk (numD 576460752303423488) := by
  rw [show (576460752303423488 : Int) = ((576460752303423488 : Nat) : Int) from rfl, numD_nat]
  exact fault_str (by decide +kernel) (by decide +kernel) (by decide +kernel) (by decide +kernel) (by decide +kernel)
theorem fault_big2 : FaultOk (numD (-576460752303423489)) := by
  rw [show (-576460752303423489 : Int) = -((576460752303423489 : Nat) : Int) from rfl, numD_neg (by decide)]
  exact fault_str (by decide +kernel) (by decide +kernel) (by decide +kernel) (by decide +kernel) (by decide +kernel)
theorem fault_big3 : FaultOk (numD (10 ^ 39)) := by
  rw [show ((10 : Int) ^ 39) = ((10 ^ 39 : Nat) : Int) by decide, numD_nat]
  exact fault_str (by decide +kernel) (by decide +kernel) (by decide +kernel) (by decide +kernel) (by decide +kernel)
theorem flat_one (n c : Nat) : (List.replicate n [c]).flatten = List.replicate n c := by
  induction n with
  | zero => rfl
  | succ n ih => rw [List.replicate_succ, List.flatten_cons, ih, List.replicate_succ]; rfl
theorem rep_all {c : Nat} (n : Nat) (h : isSg c = true) : (List.replicate n c).all isSg = true := List.all_eq_true.mpr fun d hd => by rw [(List.mem_replicate.mp hd).2]; exact h
theorem fault_big4 : FaultOk (49 :: List.replicate 4999 48) := by
  have hb : bareW (49 :: List.replicate 4999 48) = 49 :: List.replicate 4999 48 := bare_plain (by decide)
  refine fault_str (by simp) (by simp) ?_ (int_long ?_) (sym_like ?_)
  · rw [List.all_cons, rep_all _ (by decide)]; decide
  · rw [hb]; simp
  · unfold likeInt; rw [hb]; decide
theorem like_num {i : Int} (r : List Nat) : likeInt (numD i ++ r) = true ∧ (numD i).all isSg = true ∧ bareW (numD i ++ r) = bareW (numD i) ++ r := by
  by_cases h0 : 0 ≤ i
  · obtain ⟨n, rfl⟩ := nat_of h0
    rw [numD_nat]
    cases e : TL.numL n with
    | nil => exact absurd e (TL.numL_ne n)
    | cons c l =>
      have hf := numL_fig n
      rw [e] at hf
      have hc : isFig c = true := by rw [List.all_cons, Bool.and_eq_true] at hf; exact hf.1
      have hb : ∀ l, bareW (c :: l) = c :: l := fun l => bare_plain (fig_no45 hc)
      refine ⟨?_, figs_sg hf, ?_⟩
      · unfold likeInt; rw [List.cons_append, hb]; exact hc
      · rw [List.cons_append, hb, hb]; rfl
  · obtain ⟨n, hn, rfl⟩ : ∃ n : Nat, 0 < n ∧ i = -(n : Int) := ⟨i.natAbs, by omega, by omega⟩
    rw [numD_neg hn]
    cases e : TL.numL n with
    | nil => exact absurd e (TL.numL_ne n)
    | cons c l =>
      have hf := numL_fig n
      rw [e] at hf
      have hc : isFig c = true := by rw [List.all_cons, Bool.and_eq_true] at hf; exact hf.1
      refine ⟨hc, ?_, rfl⟩
      rw [List.all_cons, figs_sg hf]
      decide
theorem numD_small {i : Int} (h1 : -1000 < i) (h2 : i < 1000) : (numD i).length ≤ 19 := (num_ok (by unfold LEASTv; omega) (by unfold MOSTv; omega)).2.2.2
theorem fault_num {i : Int} {c : Nat} (h1 : -1000 < i) (h2 : i < 1000) (hs : isSg c = true) (hf : isFig c = false) : FaultOk (numD i ++ [c]) := by
  obtain ⟨a, b, d⟩ := like_num (i := i) [c]
  have := numD_small h1 h2
  refine fault_str (by simp) (by simp; omega) ?_ (int_figs ?_) (sym_like a)
  · rw [List.all_append, b]; simp [hs]
  · rw [d]; exact not_figs (List.mem_append_right _ (List.mem_singleton.mpr rfl)) hf
theorem fault_long {c n : Nat} (hc : isSg c = true) (h1 : 20 ≤ n) (h2 : n ≤ 30) : FaultOk (c :: List.replicate n 113) := by
  refine fault_str (by simp) (by simp; omega) ?_ (int_figs ?_) ?_
  · rw [List.all_cons, hc, rep_all _ (by decide)]; rfl
  · refine not_figs (c := 113) ?_ (by decide)
    unfold bareW
    split
    · exact List.mem_replicate.mpr ⟨by omega, rfl⟩
    · exact List.mem_cons_of_mem _ (List.mem_replicate.mpr ⟨by omega, rfl⟩)
  · unfold isSym
    rw [decide_eq_false (by simp; omega : ¬ (c :: List.replicate n 113).length ≤ 20)]
    simp
theorem fault_seven {w : List Nat} (h : SymOk w) : FaultOk ([55] ++ w ++ [120]) := by
  obtain ⟨h1, h2, h3, h4⟩ := h
  refine fault_str (by simp) (by simp; omega) ?_ (int_figs ?_) (sym_like rfl)
  · rw [List.all_append, List.all_append, h3]; decide
  · exact not_figs (w := 55 :: (w ++ [120])) (c := 120) (by simp) (by decide)
theorem fault_zero {i : Int} (h1 : 0 ≤ i) (h2 : i < 1000) : FaultOk ([48] ++ numD i) := by
  obtain ⟨n, rfl⟩ := nat_of h1
  have hl := numD_small (i := (n : Int)) (by omega) h2
  rw [numD_nat] at hl ⊢
  refine fault_str (by simp) (by simp; omega) ?_ ?_ (sym_like rfl)
  · rw [List.all_append, figs_sg (numL_fig n)]; decide
  · have hb : bareW ([48] ++ TL.numL n) = 48 :: TL.numL n := rfl
    unfold isIntW
    rw [hb, List.head?_cons]
    have : TL.numL n ≠ [] := TL.numL_ne n
    simp [this]
end K01
end

section
set_option Elab.async false
set_option linter.all false
set_option maxRecDepth 100000
set_option maxHeartbeats 4000000
namespace K01
open DL L2
theorem u_fault {fc p : PySem.Addr} {M : Mp} {Q : QK} {E : QX} (f : FlowAt fc M p) (h : ∀ F M', FaultOk F → MOff p M M' → FlowAt fc M' p → Q (.str F) M') : sp__law_fault [.ref p] M Q E := by
  refine ⟨rfl, ?_⟩
  have h1 := @u_draw
  have h2 := @u_inner
  have h3 := @u_symbol
  unfold rd__law_fault
  generalize sp__law_draw = s1 at h1 ⊢
  generalize sp__law_inner = s2 at h2 ⊢
  generalize sp__law_symbol = s3 at h3 ⊢
  conv => whnf
  refine h1 f (by decide) (by decide) fun d M1 hd0 hd1 k1 f1 => ?_
  obtain ⟨kind, rfl⟩ := nat_of hd0
  conv => whnf
  have hk : kind < 9 := by omega
  by_cases g : kind = 0
  · subst g
    conv => whnf
    refine h1 f1 (by decide) (by decide) fun d M2 hd0 hd1 k2 f2 => ?_
    obtain ⟨n, rfl⟩ := nat_of hd0
    conv => whnf
    refine ⟨sz _ (by decide), ?_⟩
    rw [atN]
    have hlt : n < (tx ",.:#$&\x40[]{|}^`~\\").length := by
      have : (tx ",.:#$&\x40[]{|}^`~\\").length = 16 := by decide
      omega
    obtain ⟨c, e1, _⟩ := drop_get hlt
    rw [e1]
    have hc := (by decide +kernel : ∀ c ∈ tx ",.:#$&\x40[]{|}^`~\\", c ≠ 59 ∧ c ≠ 10 ∧ c ≠ 32 ∧ c ≠ 34 ∧ isSg c = false ∧ isMark c = false) c (List.mem_of_getElem? e1)
    exact h _ _ (fault_sign hc) (k1.trans k2) f2
  rw [decide_eq_false (by omega)]
  conv => whnf
  by_cases g : kind = 1
  · subst g
    conv => whnf
    refine h2 f1 fun x M2 hx8 hx10 k2 f2 => ?_
    conv => whnf
    rw [repl_dbl]
    have hdl := dbl_len 34 x
    have hq1 : (tx "\"").length = 1 := by decide
    refine ⟨by rw [show (tx "\"\"").length = 2 by decide]; omega, ?_⟩
    conv => whnf
    refine ⟨sz _ (by rw [hq1]; omega), ?_⟩
    conv => whnf
    refine ⟨sz _ (by rw [List.length_append, hq1, show (tx "\n").length = 1 by decide]; omega), ?_⟩
    rw [show (tx "\"" : List Nat) = [34] by decide, show (tx "\n" : List Nat) = [10] by decide]
    exact h _ _ (fault_text hx8 hx10) (k1.trans k2) f2
  rw [decide_eq_false (by omega)]
  conv => whnf
  by_cases g : kind = 2
  · subst g
    conv => whnf
    refine ⟨sz 5 (by decide), fun q hq => ?_⟩
    have qp := flow_ne f1 hq
    conv => whnf
    refine h1 (f1.new hq) (by decide) (by decide) fun d M2 hd0 hd1 k2 f2 => ?_
    obtain ⟨n, rfl⟩ := nat_of hd0
    have hMq := k2 _ _ qp updM_same
    have k2 := (k1.trans (MExt.new hq).off).trans k2
    conv => whnf
    rw [hMq]
    conv => whnf
    rw [atN]
    have hn : n < 5 := by omega
    match n, hn with
    | 0, _ => exact h _ _ (fault_str (by decide) (by decide) (by decide) (by decide +kernel) (by decide +kernel)) k2 f2
    | 1, _ => exact h _ _ (fault_str (by decide) (by decide) (by decide) (by decide +kernel) (by decide +kernel)) k2 f2
    | 2, _ => exact h _ _ (fault_str (by decide) (by decide) (by decide) (by decide +kernel) (by decide +kernel)) k2 f2
    | 3, _ => exact h _ _ (fault_str (by decide) (by decide) (by decide) (by decide +kernel) (by decide +kernel)) k2 f2
    | 4, _ => exact h _ _ (fault_str (by decide) (by decide) (by decide) (by decide +kernel) (by decide +kernel)) k2 f2
  rw [decide_eq_false (by omega)]
  conv => whnf
  by_cases g : kind = 3
  · subst g
    conv => whnf
    refine ⟨⟨by decide, by decide, by decide⟩, ?_⟩
    conv => whnf
    refine ⟨by decide +kernel, ?_⟩
    conv => whnf
    refine ⟨⟨by decide, by decide, by decide⟩, ?_⟩
    conv => whnf
    refine ⟨by decide +kernel, ?_⟩
    conv => whnf
    refine ⟨⟨by decide, by decide, by decide⟩, ?_⟩
    conv => whnf
    refine ⟨by decide +kernel, ?_⟩
    conv => whnf
    refine ⟨⟨by decide, by decide, by decide⟩, ?_⟩
    conv => whnf
    rw [show (tx "0" : List Nat) = [48] by decide, flat_one, show (tx "1" : List Nat) = [49] by decide]
    refine ⟨lt_size (by rw [List.length_replicate]; decide), ?_⟩
    generalize hF4 : [49] ++ List.replicate (Int.toNat 4999) 48 = F4
    have o4 : FaultOk F4 := by rw [← hF4]; exact fault_big4
    generalize hF3 : numD (10 ^ Int.toNat 39) = F3
    have o3 : FaultOk F3 := by rw [← hF3]; exact fault_big3
    generalize hF2 : numD (-2 ^ Int.toNat 59 - 1) = F2
    have o2 : FaultOk F2 := by
      rw [← hF2, show (-2 ^ Int.toNat 59 - 1 : Int) = -576460752303423489 by decide]
      exact fault_big2
    generalize hF1 : numD (2 ^ Int.toNat 59) = F1
    have o1 : FaultOk F1 := by
      rw [← hF1, show (2 ^ Int.toNat 59 : Int) = 576460752303423488 by decide]
      exact fault_big1
    conv => whnf
    refine ⟨sz 4 (by decide), fun q hq => ?_⟩
    have qp := flow_ne f1 hq
    conv => whnf
    refine h1 (f1.new hq) (by decide) (by decide) fun d M2 hd0 hd1 k2 f2 => ?_
    obtain ⟨n, rfl⟩ := nat_of hd0
    have hMq := k2 _ _ qp updM_same
    have k2 := (k1.trans (MExt.new hq).off).trans k2
    conv => whnf
    rw [hMq]
    conv => whnf
    rw [atN]
    have hn : n < 4 := by omega
    match n, hn with
    | 0, _ => exact h _ _ o1 k2 f2
    | 1, _ => exact h _ _ o2 k2 f2
    | 2, _ => exact h _ _ o3 k2 f2
    | 3, _ => exact h _ _ o4 k2 f2
  rw [decide_eq_false (by omega)]
  conv => whnf
  by_cases g : kind = 4
  · subst g
    conv => whnf
    refine h1 f1 (by decide) (by decide) fun d M2 hd0 hd1 k2 f2 => ?_
    conv => whnf
    refine ⟨log_small (by omega) (by omega), ?_⟩
    conv => whnf
    refine h1 f2 (by decide) (by decide) fun e M3 he0 he1 k3 f3 => ?_
    obtain ⟨n, rfl⟩ := nat_of he0
    conv => whnf
    refine ⟨sz _ (by decide), ?_⟩
    rw [atN]
    have hlt : n < (tx "a+-_?").length := by
      have : (tx "a+-_?").length = 5 := by decide
      omega
    obtain ⟨c, e1, _⟩ := drop_get hlt
    rw [e1]
    have hc := (by decide +kernel : ∀ c ∈ tx "a+-_?", isSg c = true ∧ isFig c = false) c (List.mem_of_getElem? e1)
    have hl := numD_small (i := d - 450) (by omega) (by omega)
    conv => whnf
    refine ⟨sz _ (by simp; omega), ?_⟩
    exact h _ _ (fault_num (by omega) (by omega) hc.1 hc.2) ((k1.trans k2).trans k3) f3
  rw [decide_eq_false (by omega)]
  conv => whnf
  by_cases g : kind = 5
  · subst g
    conv => whnf
    refine h3 f1 fun w M2 hw k2 f2 => ?_
    obtain ⟨w1, w2, w3, w4⟩ := hw
    conv => whnf
    refine ⟨lt_size (Nat.le_trans w2 (by decide)), ?_⟩
    rw [show (some (1 : Int)) = some ((1 : Nat) : Int) from rfl, cut_0n]
    conv => whnf
    refine h1 f2 (by decide) (by decide) fun e M3 he0 he1 k3 f3 => ?_
    obtain ⟨n, rfl⟩ := nat_of he0
    conv => whnf
    refine ⟨⟨by omega, by decide, by rw [show (tx "q").length = 1 by decide]; omega⟩, ?_⟩
    conv => whnf
    rw [show (tx "q" : List Nat) = [113] by decide, flat_one]
    cases w with
    | nil => simp at w1
    | cons c r =>
      have hc : isSg c = true := by rw [List.all_cons, Bool.and_eq_true] at w3; exact w3.1
      refine ⟨sz _ (by simp; omega), ?_⟩
      exact h _ _ (fault_long hc (by omega) (by omega)) ((k1.trans k2).trans k3) f3
  rw [decide_eq_false (by omega)]
  conv => whnf
  by_cases g : kind = 6
  · subst g
    conv => whnf
    refine h3 f1 fun w M2 hw k2 f2 => ?_
    have w2 := hw.2.1
    conv => whnf
    have hq1 : (tx "7").length = 1 := by decide
    refine ⟨sz _ (by rw [hq1]; omega), ?_⟩
    conv => whnf
    refine ⟨sz _ (by rw [List.length_append, hq1, show (tx "x").length = 1 by decide]; omega), ?_⟩
    rw [show (tx "7" : List Nat) = [55] by decide, show (tx "x" : List Nat) = [120] by decide]
    exact h _ _ (fault_seven hw) (k1.trans k2) f2
  rw [decide_eq_false (by omega)]
  conv => whnf
  by_cases g : kind = 7
  · subst g
    conv => whnf
    rw [show (tx "\"\"\"\n" : List Nat) = [34] ++ PySem.StrLaws.dbl 34 [34] ++ [10] by decide]
    exact h _ _ (fault_text (by decide) (by decide)) k1 f1
  rw [decide_eq_false (by omega)]
  conv => whnf
  refine h1 f1 (by decide) (by decide) fun d M2 hd0 hd1 k2 f2 => ?_
  conv => whnf
  refine ⟨log_small (by omega) (by omega), ?_⟩
  have hl := numD_small (i := d) (by omega) (by omega)
  conv => whnf
  refine ⟨sz _ (by rw [show (tx "0").length = 1 by decide]; omega), ?_⟩
  rw [show (tx "0" : List Nat) = [48] by decide]
  exact h _ _ (fault_zero hd0 (by omega)) (k1.trans k2) f2
end K01
end

section
set_option Elab.async false
set_option linter.all false
set_option maxRecDepth 100000
set_option maxHeartbeats 4000000
namespace K01
open DL L2
/-! ### the pieces' text -/
def lastTx : Option Srt → List Nat
  | none => tx ""
  | some s => s.tx
def badD : Option Int → D
  | none => .non
  | some b => .int b
def St (T : List Nat) (last : Option Srt) (ts : List D) : Option Int → Prop
  | none => ∀ R, Safe last R → lex (T ++ R) 1 [] = lex R (1 + nl T) ts
  | some b => ∀ R, lex (T ++ R) 1 [] = .inl b
theorem gap_safe {R : List Nat} (h : Gap R) : ∀ last, Safe last R
  | none => trivial
  | some .mark => trivial
  | some .text => fun e => by
    obtain ⟨c, r, rfl, h⟩ := h
    have : c = 34 := by simpa using e
    subst this
    revert h; decide
  | some .int => h.sg
  | some .sym => h.sg
theorem st_space {T S : List Nat} {c : Nat} {last : Option Srt} {ts : List D} {bad : Option Int} (h : St T last ts bad) (hb : Blank (c :: S) (nl (c :: S))) (hc : c = 32 ∨ c = 10 ∨ c = 59) : St (T ++ c :: S) none ts bad := by
  cases bad with
  | none =>
    intro R _
    rw [List.append_assoc, h (c :: S ++ R) (gap_safe ⟨c, S ++ R, rfl, hc⟩ last), lex_blank hb, nl_app]
    congr 1
    omega
  | some b =>
    intro R
    rw [List.append_assoc]
    exact h _
theorem st_piece {T W : List Nat} {s : Srt} {V : D} {last : Option Srt} {ts : List D} {bad : Option Int} (h : St T last ts bad) (hw : PieceOk W s V) (safe : ∀ R, Safe last (W ++ R)) : St (T ++ W) (some s) (ts ++ [tok3 (.str s.tx, V) (1 + nl T)]) bad := by
  cases bad with
  | none =>
    intro R hR
    rw [List.append_assoc, h _ (safe R), hw.lexes R _ _ hR, nl_app, nl_free hw.free, Int.add_zero]
  | some b =>
    intro R
    rw [List.append_assoc]
    exact h _
theorem st_fault {T F S : List Nat} {c : Nat} {ts : List D} {bad : Option Int} (h : St T none ts bad) (hf : FaultOk F) (hc : c = 32 ∨ c = 10 ∨ c = 59) : St (T ++ F ++ c :: S) none ts (some (bad.getD (1 + nl T))) := by
  cases bad with
  | none =>
    intro R
    rw [List.append_assoc, List.append_assoc, h _ trivial, hf.lexes (c :: S ++ R) _ _ ⟨c, S ++ R, rfl, hc⟩]
    rfl
  | some b =>
    intro R
    rw [List.append_assoc, List.append_assoc]
    exact h _
theorem MOff.at {p q : PySem.Addr} {M M1 M' : Mp} {o : MO} (k1 : MOff p M M1) (hq : M1 q = none) (k : MOff p M M') : MOff p M (updM M' q o) := fun a u n e => by
  have nq : a ≠ q := fun z => by
    have := k1 a u n e
    rw [z, hq] at this
    cases this
  rw [updM_ne nq]
  exact k a u n e
theorem FlowAt.at {fc p q : PySem.Addr} {M : Mp} {o : MO} (f : FlowAt fc M p) (h1 : q ≠ p) (h2 : q ≠ fc) : FlowAt fc (updM M q o) p := by
  obtain ⟨cells, a, pl, sd, g1, g2, g3⟩ := f
  exact ⟨cells, a, pl, sd, by rw [updM_ne (Ne.symm h1)]; exact g1, by rw [updM_ne (Ne.symm h2)]; exact g2, g3⟩
theorem flow_nc {M : Mp} {fc p q : PySem.Addr} (f : FlowAt fc M p) (h : M q = none) : q ≠ fc := fun z => by
  obtain ⟨cells, a, pl, sd, h1, h2, _⟩ := f
  rw [z, h2] at h
  cases h
/-- what is due for a text -/
def Due (M : Mp) (x : List Nat) (d : D) : Prop := match lex x 1 [] with
  | .inl b => d = .tup [.str (tx "bad"), .int b]
  | .inr ts => ∃ q, M q = some (.lst ts) ∧ d = .tup [.str (tx "told"), .ref q]
open PySem PyProof.Rows in
def pcA : QS := (qSeq (qSet 3 (qOp DL.rAdd (qVar 3) (qVar 10)))
    (qSeq (qDrop (qBM "list" rAppend (qVar 4) (qaCons (qTup (qaCons (qVar 11) (qaCons (qVar 12) (qaCons (qVar 8) qaNil)))) qaNil)))
    (qSet 5 (qVar 11))))
open PySem PyProof.Rows in
def pcB : QS := (qSeq (qIfS (qAnd (qTest (qOp DL.rNeD (qVar 5) (qC (.str (tx ""))))) (qNot (qAnd (qTest (qVar 9)) (qTest (qOp DL.rEqD (qCall sp__law_draw (qaCons (qVar 0) (qaCons (qC (.int 2)) qaNil))) (qC (.int 1))))))) (qSeq (qSet 3 (qOp DL.rAdd (qVar 3) (qCall sp__law_space (qaCons (qVar 0) qaNil))))
    (qSet 8 (qOp DL.rAdd (qC (.int 1)) (qBM "str" rCount (qVar 3) (qaCons (qC (.str (tx "\n"))) qaNil))))) qNext)
    pcA)
open PySem PyProof.Rows in
def pcP : QS := (qSeq (qSet 9 (qAndV (qOp DL.rNeD (qVar 5) (qC (.str (tx "")))) (qOrV (qOp DL.rEqD (qVar 11) (qC (.str (tx "mark")))) (qOrV (qOp DL.rEqD (qVar 5) (qC (.str (tx "mark")))) (qOp DL.rNeD (qOp DL.rEqD (qVar 11) (qC (.str (tx "text")))) (qOp DL.rEqD (qVar 5) (qC (.str (tx "text")))))))))
    pcB)
open PySem PyProof.Rows in
def pcBody : QS := (qSeq (qSet 8 (qOp DL.rAdd (qC (.int 1)) (qBM "str" rCount (qVar 3) (qaCons (qC (.str (tx "\n"))) qaNil))))
    (qIfS (qTest (qOp DL.rEqD (qVar 7) (qVar 2))) (qSeq (qSet 3 (qOp DL.rAdd (qVar 3) (qCall sp__law_space (qaCons (qVar 0) qaNil))))
    (qSeq (qSet 6 (qIf (qTest (qOp rIsN (qVar 6) (qC .non))) (qOp DL.rAdd (qC (.int 1)) (qBM "str" rCount (qVar 3) (qaCons (qC (.str (tx "\n"))) qaNil))) (qVar 6)))
    (qSeq (qSet 3 (qOp DL.rAdd (qOp DL.rAdd (qVar 3) (qCall sp__law_fault (qaCons (qVar 0) qaNil))) (qCall sp__law_space (qaCons (qVar 0) qaNil))))
    (qSet 5 (qC (.str (tx ""))))))) (qIfS (qTest (qOp rLt (qVar 7) (qVar 1))) (qSeq (qAsg (qCall sp__law_piece (qaCons (qVar 0) qaNil)) (qgTup 3 (qgCons (qgName 10) (qgCons (qgName 11) (qgCons (qgName 12) qgNil)))))
    pcP) qNext)))
open PySem PyProof.Rows in
def pcEnd : QS := (qSeq (qIfS (qTest (qOp DL.rEqD (qCall sp__law_draw (qaCons (qVar 0) (qaCons (qC (.int 3)) qaNil))) (qC (.int 1)))) (qSet 3 (qOp DL.rAdd (qVar 3) (qC (.str (tx " ; the last \" one"))))) qNext)
    (qRet (qTup (qaCons (qVar 3) (qaCons (qIf (qTest (qOp rIsN (qVar 6) (qC .non))) (qTup (qaCons (qC (.str (tx "told"))) (qaCons (qVar 4) qaNil))) (qTup (qaCons (qC (.str (tx "bad"))) (qaCons (qVar 6) qaNil)))) qaNil)))))
open PySem PyProof.Rows in
def pcRest : QS := (qSeq (qSet 3 (qOp DL.rIx (qLst (qaCons (qC (.str (tx ""))) (qaCons (qC (.str (tx "\n"))) (qaCons (qC (.str (tx " "))) (qaCons (qC (.str (tx "; so\n"))) qaNil))))) (qCall sp__law_draw (qaCons (qVar 0) (qaCons (qC (.int 4)) qaNil)))))
    (qSeq (qSet 4 (qLst qaNil))
    (qSeq (qSet 5 (qC (.str (tx ""))))
    (qSeq (qSet 6 (qC .non))
    (qSeq (qFor (qRng1 (qaCons (qOp DL.rAdd (qVar 1) (qC (.int 1))) qaNil)) (qgName 7) pcBody)
    pcEnd)))))
open PySem PyProof.Rows in
theorem pc_eq : rd__law_pieces = (qSeq (qSet 1 (qCall sp__law_draw (qaCons (qVar 0) (qaCons (qC (.int 31)) qaNil))))
    (qSeq (qSet 2 (qUn rNeg (qC (.int 1))))
    (qSeq (qIfS (qTest (qOp DL.rEqD (qCall sp__law_draw (qaCons (qVar 0) (qaCons (qC (.int 3)) qaNil))) (qC (.int 1)))) (qSet 2 (qCall sp__law_draw (qaCons (qVar 0) (qaCons (qOp DL.rAdd (qVar 1) (qC (.int 1))) qaNil)))) qNext)
    pcRest))) := rfl
end K01
end

section
set_option Elab.async false
set_option linter.all false
set_option maxRecDepth 100000
set_option maxHeartbeats 4000000
namespace K01
open DL L2
structure PcInv (fc p q : PySem.Addr) (M : Mp) (i : Nat) (T : List Nat) (last : Option Srt) (bad : Option Int) (ts : List D) (M' : Mp) : Prop where
  len : T.length ≤ 20 + 6000 * i
  tl : ts.length ≤ i
  off : MOff p M M'
  fl : FlowAt fc M' p
  at' : M' q = some (.lst ts)
  st : St T last ts bad
/-- the due list's place -/
structure Spot (fc p q : PySem.Addr) (M : Mp) : Prop where
  np : q ≠ p
  nc : q ≠ fc
  fresh : ∃ M1, MOff p M M1 ∧ M1 q = none
abbrev pcRow (p q : PySem.Addr) (many sp : Int) (T : List Nat) (last : Option Srt) (bad : Option Int) (o : List (Option D)) : List (Option D) :=
  some (.ref p) :: some (.int many) :: some (.int sp) :: some (.str T) :: some (.ref q) :: some (.str (lastTx last)) :: some (badD bad) :: o
theorem sizeLine_big {n : Nat} (h : n ≤ 1000000) : n ≤ PySem.sizeLine := lt_size h
theorem pc_add {fc p q : PySem.Addr} {M M' : Mp} {B : QB} {many sp : Int} {i : Nat} {T W : List Nat} {last lr : Option Srt} {bad : Option Int} {ts : List D} {s : Srt} {V : D} {o7 o9 : Option D}
    (hs : Spot fc p q M) (hi : i ≤ 40) (hl : T.length ≤ 60 + 6000 * i) (tl : ts.length ≤ i) (k : MOff p M M') (f : FlowAt fc M' p) (hq : M' q = some (.lst ts)) (st : St T last ts bad) (hw : PieceOk W s V) (safe : ∀ R, Safe last (W ++ R))
    (hN : ∀ T' ts' M'', PcInv fc p q M (i + 1) T' (some s) bad ts' M'' → B.nx (pcRow p q many sp T' (some s) bad [o7, some (.int (1 + nl T)), o9, some (.str W), some (.str s.tx), some V]) M'') :
    pcA B (pcRow p q many sp T lr bad [o7, some (.int (1 + nl T)), o9, some (.str W), some (.str s.tx), some V]) M' := by
  unfold pcA
  have hwl := hw.len
  conv => whnf
  refine ⟨lt_size (by have : LTX = 1000000 := rfl; omega), ?_⟩
  conv => whnf
  refine ⟨by show tyO (M' q) = some "list"; rw [hq]; rfl, ?_⟩
  conv => whnf
  refine ⟨sz 3 (by decide), ?_⟩
  conv => whnf
  rw [hq]
  conv => whnf
  refine ⟨sz _ (by omega), ?_⟩
  obtain ⟨M1, j1, j2⟩ := hs.fresh
  refine hN (T ++ W) (ts ++ [tok3 (.str s.tx, V) (1 + nl T)]) _ ⟨by rw [List.length_append]; omega, by simp; omega, MOff.at j1 j2 k, f.at hs.np hs.nc, updM_same, st_piece st hw safe⟩
theorem pc_space {fc p q : PySem.Addr} {M M' : Mp} {B : QB} {many sp : Int} {i : Nat} {T W : List Nat} {last : Option Srt} {bad : Option Int} {ts : List D} {s : Srt} {V : D} {o7 : Option D} {tight : Bool}
    (hs : Spot fc p q M) (hi : i ≤ 40) (inv : PcInv fc p q M i T last bad ts M') (hw : PieceOk W s V) (safe : last = none ∨ tight = true → ∀ R, Safe last (W ++ R))
    (hN : ∀ T' ts' line M'', PcInv fc p q M (i + 1) T' (some s) bad ts' M'' → B.nx (pcRow p q many sp T' (some s) bad [o7, some (.int line), some (.bl tight), some (.str W), some (.str s.tx), some V]) M'') :
    pcB B (pcRow p q many sp T last bad [o7, some (.int (1 + nl T)), some (.bl tight), some (.str W), some (.str s.tx), some V]) M' := by
  unfold pcB
  have h1 := @u_draw
  have h2 := @u_space
  generalize sp__law_draw = s1 at h1 ⊢
  generalize sp__law_space = s2 at h2 ⊢
  obtain ⟨len, tl, off, fl, hq, st⟩ := inv
  conv => whnf
  cases last with
  | none =>
    exact pc_add hs hi (by omega) tl off fl hq st hw (safe (.inl rfl)) fun T' ts' M'' => hN T' ts' _ M''
  | some t =>
    rw [show decide (lastTx (some t) = tx "") = false by cases t <;> decide]
    conv => whnf
    have spc : ∀ M3, MOff p M M3 → FlowAt fc M3 p → M3 q = some (.lst ts) → (qSeq (qSeq (qSet 3 (qOp DL.rAdd (qVar 3) (qCall s2 (qaCons (qVar 0) qaNil)))) (qSet 8 (qOp DL.rAdd (qC (.int 1)) (qBM "str" rCount (qVar 3) (qaCons (qC (.str (tx "\n"))) qaNil))))) pcA) B (pcRow p q many sp T (some t) bad [o7, some (.int (1 + nl T)), some (.bl tight), some (.str W), some (.str s.tx), some V]) M3 := by
      intro M3 k3 f3 hq3
      conv => whnf
      refine h2 f3 fun c S M4 hb hc hS k4 f4 => ?_
      conv => whnf
      refine ⟨lt_size (by have : LTX = 1000000 := rfl; simp; omega), ?_⟩
      conv => whnf
      refine ⟨rfl, ?_⟩
      conv => whnf
      rw [count_nl]
      exact pc_add hs hi (by rw [List.length_append]; simp; omega) tl (k3.trans k4) f4 (k4 _ _ hs.np hq3) (st_space st hb hc) hw (fun _ => trivial) fun T' ts' M'' => hN T' ts' _ M''
    cases tight with
    | false => exact spc M' off fl hq
    | true =>
      conv => whnf
      refine h1 fl (by decide) (by decide) fun d M2 hd0 hd1 k2 f2 => ?_
      conv => whnf
      by_cases hd : d = 1
      · rw [decide_eq_true hd]
        exact pc_add hs hi (by omega) tl (off.trans k2) f2 (k2 _ _ hs.np hq) st hw (safe (.inr rfl)) fun T' ts' M'' => hN T' ts' _ M''
      · rw [decide_eq_false hd]
        exact spc M2 (off.trans k2) f2 (k2 _ _ hs.np hq)
end K01
end

section
set_option Elab.async false
set_option linter.all false
set_option maxRecDepth 100000
set_option maxHeartbeats 4000000
namespace K01
open DL L2
theorem srt_mark : ∀ s : Srt, decide (s.tx = tx "mark") = (match s with | .mark => true | _ => false) := by intro s; cases s <;> decide
theorem srt_text : ∀ s : Srt, decide (s.tx = tx "text") = (match s with | .text => true | _ => false) := by intro s; cases s <;> decide
/-- may stand side by side -/
def tightB : Srt → Srt → Bool
  | .mark, _ => true
  | _, .mark => true
  | .text, .text => false
  | .text, _ => true
  | _, .text => true
  | _, _ => false
theorem tight_safe {t s : Srt} {W : List Nat} {V : D} (hw : PieceOk W s V) (h : tightB t s = true) (R : List Nat) : Safe (some t) (W ++ R) := by
  obtain ⟨c, r, rfl, hd⟩ := hw.head
  cases t <;> cases s <;> first | trivial | exact absurd h (by decide) | skip
  all_goals unfold Safe
  · intro e
    have : c = 34 := by simpa using e
    subst this
    exact absurd hd (by show ¬ isMark 34 = true; decide)
  · intro e
    have : c = 34 := by simpa using e
    subst this
    exact absurd hd (by show ¬ isSg 34 = true; decide)
  · intro e
    have : c = 34 := by simpa using e
    subst this
    exact absurd hd (by show ¬ isSg 34 = true; decide)
  all_goals
    intro d e
    have : c = d := by simpa using e
    subst this
    first
      | exact sg_no (.inl hd)
      | exact sg_no (.inr (.inl hd))
theorem pc_tight {fc p q : PySem.Addr} {M M' : Mp} {B : QB} {many sp : Int} {i : Nat} {T W : List Nat} {last : Option Srt} {bad : Option Int} {ts : List D} {s : Srt} {V : D} {o7 o9 : Option D}
    (hs : Spot fc p q M) (hi : i ≤ 40) (inv : PcInv fc p q M i T last bad ts M') (hw : PieceOk W s V)
    (hN : ∀ T' ts' a b M'', PcInv fc p q M (i + 1) T' (some s) bad ts' M'' → B.nx (pcRow p q many sp T' (some s) bad [o7, a, b, some (.str W), some (.str s.tx), some V]) M'') :
    pcP B (pcRow p q many sp T last bad [o7, some (.int (1 + nl T)), o9, some (.str W), some (.str s.tx), some V]) M' := by
  unfold pcP
  have h1 := @pc_space
  generalize pcB = sB at h1 ⊢
  conv => whnf
  cases last with
  | none =>
    exact h1 hs hi inv hw (fun _ _ => trivial) fun T' ts' line M'' => hN T' ts' _ _ M''
  | some t =>
    rw [show decide (lastTx (some t) = tx "") = false by cases t <;> decide]
    conv => whnf
    rw [srt_mark]
    have fin : ∀ {b : Bool}, b = tightB t s → sB B (pcRow p q many sp T (some t) bad [o7, some (.int (1 + nl T)), some (.bl b), some (.str W), some (.str s.tx), some V]) M' := fun {b} e =>
      h1 hs hi inv hw (fun hh R => tight_safe hw (by rcases hh with hh | hh; cases hh; rw [← e]; exact hh) R) fun T' ts' line M'' => hN T' ts' _ _ M''
    cases s with
    | mark => exact fin (by cases t <;> rfl)
    | text =>
      conv => whnf
      rw [show decide (lastTx (some t) = tx "mark") = _ from srt_mark t]
      cases t with
      | mark => exact fin rfl
      | text =>
        conv => whnf
        rw [srt_text]
        conv => whnf
        rw [show decide (lastTx (some .text) = tx "text") = _ from srt_text .text]
        exact fin rfl
      | int =>
        conv => whnf
        rw [srt_text]
        conv => whnf
        rw [show decide (lastTx (some .int) = tx "text") = _ from srt_text .int]
        exact fin rfl
      | sym =>
        conv => whnf
        rw [srt_text]
        conv => whnf
        rw [show decide (lastTx (some .sym) = tx "text") = _ from srt_text .sym]
        exact fin rfl
    | int =>
      conv => whnf
      rw [show decide (lastTx (some t) = tx "mark") = _ from srt_mark t]
      cases t with
      | mark => exact fin rfl
      | text =>
        conv => whnf
        rw [srt_text]
        conv => whnf
        rw [show decide (lastTx (some .text) = tx "text") = _ from srt_text .text]
        exact fin rfl
      | int =>
        conv => whnf
        rw [srt_text]
        conv => whnf
        rw [show decide (lastTx (some .int) = tx "text") = _ from srt_text .int]
        exact fin rfl
      | sym =>
        conv => whnf
        rw [srt_text]
        conv => whnf
        rw [show decide (lastTx (some .sym) = tx "text") = _ from srt_text .sym]
        exact fin rfl
    | sym =>
      conv => whnf
      rw [show decide (lastTx (some t) = tx "mark") = _ from srt_mark t]
      cases t with
      | mark => exact fin rfl
      | text =>
        conv => whnf
        rw [srt_text]
        conv => whnf
        rw [show decide (lastTx (some .text) = tx "text") = _ from srt_text .text]
        exact fin rfl
      | int =>
        conv => whnf
        rw [srt_text]
        conv => whnf
        rw [show decide (lastTx (some .int) = tx "text") = _ from srt_text .int]
        exact fin rfl
      | sym =>
        conv => whnf
        rw [srt_text]
        conv => whnf
        rw [show decide (lastTx (some .sym) = tx "text") = _ from srt_text .sym]
        exact fin rfl
end K01
end

section
set_option Elab.async false
set_option linter.all false
set_option maxRecDepth 100000
set_option maxHeartbeats 4000000
namespace K01
open DL L2
theorem pc_body {fc p q : PySem.Addr} {M M' : Mp} {B : QB} {many sp : Int} {i : Nat} {T : List Nat} {last : Option Srt} {bad : Option Int} {ts : List D} {o8 o9 o10 o11 o12 : Option D}
    (hs : Spot fc p q M) (hi : i ≤ 40) (inv : PcInv fc p q M i T last bad ts M')
    (hN : ∀ T' last' bad' ts' o8 o9 o10 o11 o12 M'', PcInv fc p q M (i + 1) T' last' bad' ts' M'' → B.nx (pcRow p q many sp T' last' bad' [some (.int (0 + (i : Int))), o8, o9, o10, o11, o12]) M'') :
    pcBody B (pcRow p q many sp T last bad [some (.int (0 + (i : Int))), o8, o9, o10, o11, o12]) M' := by
  unfold pcBody
  have h1 := @u_space
  have h2 := @u_fault
  have h3 := @u_piece
  have h4 := @pc_tight
  generalize sp__law_space = s1 at h1 ⊢
  generalize sp__law_fault = s2 at h2 ⊢
  generalize sp__law_piece = s3 at h3 ⊢
  generalize pcP = s4 at h4 ⊢
  have hLT : LTX = 1000000 := rfl
  conv => whnf
  refine ⟨rfl, ?_⟩
  conv => whnf
  rw [count_nl]
  by_cases hk : (0 + (i : Int)) = sp
  · rw [decide_eq_true hk]
    conv => whnf
    obtain ⟨len, tl, off, fl, hq, st⟩ := inv
    refine h1 fl fun c S M2 hb hc hS k2 f2 => ?_
    conv => whnf
    refine ⟨lt_size (by simp; omega), ?_⟩
    have st2 := st_space st hb hc
    have fin : ∀ (b : Option Int) (hb : b = some (bad.getD (1 + nl (T ++ c :: S)))), (qSeq (qSet 3 (qOp DL.rAdd (qOp DL.rAdd (qVar 3) (qCall s2 (qaCons (qVar 0) qaNil))) (qCall s1 (qaCons (qVar 0) qaNil)))) (qSet 5 (qC (.str (tx ""))))) B (pcRow p q many sp (T ++ c :: S) last b [some (.int (0 + (i : Int))), some (.int (1 + nl T)), o9, o10, o11, o12]) M2 := by
      intro b eb
      conv => whnf
      refine h2 f2 fun F M3 hF k3 f3 => ?_
      have hFl := hF.len
      conv => whnf
      refine ⟨lt_size (by simp; omega), ?_⟩
      conv => whnf
      refine h1 f3 fun c2 S2 M4 hb2 hc2 hS2 k4 f4 => ?_
      conv => whnf
      refine ⟨lt_size (by simp; omega), ?_⟩
      refine hN (T ++ c :: S ++ F ++ c2 :: S2) none b ts _ _ _ _ _ M4 ⟨by simp; omega, by omega, ((off.trans k2).trans k3).trans k4, f4, k4 _ _ hs.np (k3 _ _ hs.np (k2 _ _ hs.np hq)), ?_⟩
      rw [eb]
      exact st_fault st2 hF hc2
    cases bad with
    | none =>
      conv => whnf
      refine ⟨rfl, ?_⟩
      conv => whnf
      rw [count_nl]
      exact fin (some (1 + nl (T ++ c :: S))) rfl
    | some b => exact fin (some b) rfl
  · rw [decide_eq_false hk]
    conv => whnf
    by_cases hm : (0 + (i : Int)) < many
    · rw [decide_eq_true hm]
      conv => whnf
      obtain ⟨len, tl, off, fl, hq, st⟩ := inv
      refine h3 fl fun W s V M2 hw k2 f2 => ?_
      conv => whnf
      refine ⟨rfl, ?_⟩
      exact h4 hs hi ⟨len, tl, off.trans k2, f2, k2 _ _ hs.np hq, st⟩ hw fun T' ts' a b M'' i' => hN T' (some s) bad ts' _ _ _ _ _ M'' i'
    · rw [decide_eq_false hm]
      exact hN T last bad ts _ _ _ _ _ M' ⟨by have := inv.len; omega, by have := inv.tl; omega, inv.off, inv.fl, inv.at', inv.st⟩
def endRes : Option Int → List D → Sum Int (List D)
  | some b, _ => .inl b
  | none, ts => .inr ts
theorem st_end {T : List Nat} {last : Option Srt} {ts : List D} {bad : Option Int} (h : St T last ts bad) : lex T 1 [] = endRes bad ts ∧ lex (T ++ tx " ; the last \" one") 1 [] = endRes bad ts := by
  cases bad with
  | some b =>
    refine ⟨?_, h _⟩
    have := h []
    rw [List.append_nil] at this
    exact this
  | none =>
    constructor
    · have := h [] (by cases last with
        | none => trivial
        | some s => cases s <;> first | trivial | (intro e; simp at e) | (intro c e; simp at e))
      rw [List.append_nil, lex_nil] at this
      exact this
    · have e : tx " ; the last \" one" = 32 :: 59 :: (tx " the last \" one") := by decide
      rw [e, h _ (gap_safe ⟨32, _, rfl, .inl rfl⟩ last), lex_cons, if_neg (by decide), if_neg (by decide), if_pos rfl, lex_cons, if_pos rfl]
      rw [show (59 :: (tx " the last \" one")).drop (spanL notNl (59 :: (tx " the last \" one"))) = [] by decide, lex_nil]
      rfl
theorem u_pieces {fc p : PySem.Addr} {M : Mp} {Q : QK} {E : QX} (f : FlowAt fc M p) (h : ∀ x d M', x.length ≤ LTX → Due M' x d → MOff p M M' → Q (.tup [.str x, d]) M') : sp__law_pieces [.ref p] M Q E := by
  refine ⟨rfl, ?_⟩
  rw [pc_eq]
  have h1 := @u_draw
  have hLT : LTX = 1000000 := rfl
  have rest : ∀ (many : Nat) (sp : Int) (M2 : Mp), many ≤ 30 → MOff p M M2 → FlowAt fc M2 p → pcRest (endsD Q E) [some (.ref p), some (.int many), some (.int sp), none, none, none, none, none, none, none, none, none, none] M2 := by
    intro many sp M2 hm k2 f2
    unfold pcRest
    have h2 := @pc_body
    have hE : ∀ {q : PySem.Addr} {T : List Nat} {last : Option Srt} {bad : Option Int} {ts : List D} {o : List (Option D)} {M3 : Mp} , T.length ≤ 900000 → q ≠ p → MOff p M M3 → FlowAt fc M3 p → M3 q = some (.lst ts) → St T last ts bad → pcEnd (endsD Q E) (pcRow p q many sp T last bad o) M3 := by
      intro q T last bad ts o M3 hT hqp k3 f3 hq st
      unfold pcEnd
      obtain ⟨e1, e2⟩ := st_end st
      have fin : ∀ (x : List Nat) (M4 : Mp), x.length ≤ LTX → MOff p M M4 → M4 q = some (.lst ts) → lex x 1 [] = endRes bad ts → qRet (qTup (qaCons (qVar 3) (qaCons (qIf (qTest (qOp rIsN (qVar 6) (qC .non))) (qTup (qaCons (qC (.str (tx "told"))) (qaCons (qVar 4) qaNil))) (qTup (qaCons (qC (.str (tx "bad"))) (qaCons (qVar 6) qaNil)))) qaNil))) (endsD Q E) (pcRow p q many sp x last bad o) M4 := by
        intro x M4 hx k4 hq4 e
        cases bad with
        | none =>
          conv => whnf
          refine ⟨sz 2 (by decide), ?_⟩
          conv => whnf
          refine ⟨sz 2 (by decide), ?_⟩
          exact h x _ M4 hx (by unfold Due; rw [e]; exact ⟨q, hq4, rfl⟩) k4
        | some b =>
          conv => whnf
          refine ⟨sz 2 (by decide), ?_⟩
          conv => whnf
          refine ⟨sz 2 (by decide), ?_⟩
          exact h x _ M4 hx (by unfold Due; rw [e]; rfl) k4
      generalize sp__law_draw = s1 at h1 ⊢
      conv => whnf
      refine h1 f3 (by decide) (by decide) fun d M4 hd0 hd1 k4 f4 => ?_
      conv => whnf
      by_cases hd : d = 1
      · rw [decide_eq_true hd]
        conv => whnf
        have hl : (tx " ; the last \" one").length = 17 := by decide
        refine ⟨lt_size (by omega), ?_⟩
        exact fin _ M4 (by rw [List.length_append]; omega) (k3.trans k4) (k4 _ _ hqp hq) e2
      · rw [decide_eq_false hd]
        exact fin _ M4 (by omega) (k3.trans k4) (k4 _ _ hqp hq) e1
    generalize pcEnd = sE at hE ⊢
    generalize pcBody = sB at h2 ⊢
    generalize sp__law_draw = s1 at h1 ⊢
    conv => whnf
    refine ⟨sz 4 (by decide), fun q0 hq0 => ?_⟩
    have qp0 := flow_ne f2 hq0
    conv => whnf
    refine h1 (f2.new hq0) (by decide) (by decide) fun d M3 hd0 hd1 k3 f3 => ?_
    obtain ⟨n, rfl⟩ := nat_of hd0
    have hMq := k3 _ _ qp0 updM_same
    have k3 := (k2.trans (MExt.new hq0).off).trans k3
    conv => whnf
    rw [hMq]
    conv => whnf
    rw [atN]
    obtain ⟨T0, hT0, s0, e0⟩ : ∃ T0 : List Nat, T0.length ≤ 20 ∧ St T0 none [] none ∧ [D.str (tx ""), D.str (tx "\n"), D.str (tx " "), D.str (tx "; so\n")][n]? = some (.str T0) := by
      have hn : n < 4 := by omega
      match n, hn with
      | 0, _ => exact ⟨tx "", by decide, fun R _ => rfl, rfl⟩
      | 1, _ => exact ⟨tx "\n", by decide, fun R _ => by rw [show tx "\n" = [10] by decide]; exact lex_blank (.nl .nil) R 1 [], rfl⟩
      | 2, _ => exact ⟨tx " ", by decide, fun R _ => by rw [show tx " " = [32] by decide]; exact lex_blank (.sp .nil) R 1 [], rfl⟩
      | 3, _ => exact ⟨tx "; so\n", by decide, fun R _ => by rw [show tx "; so\n" = 59 :: (tx " so" ++ 10 :: []) by decide]; exact lex_blank (.note (tx " so") (by decide) (.nl .nil)) R 1 [], rfl⟩
    rw [e0]
    conv => whnf
    refine ⟨Nat.zero_le _, fun q hq => ?_⟩
    have hs : Spot fc p q M := ⟨flow_ne f3 hq, flow_nc f3 hq, M3, k3, hq⟩
    conv => whnf
    refine ⟨by omega, by omega, ?_⟩
    refine forL_inv (fun i ρ M' => ∃ (T : List Nat) (last : Option Srt) (bad : Option Int) (ts : List D) (o7 o8 o9 o10 o11 o12 : Option D), ρ = pcRow p q many sp T last bad [o7, o8, o9, o10, o11, o12] ∧ PcInv fc p q M i T last bad ts M') ?_ ?_
      ⟨T0, none, none, [], none, none, none, none, none, none, rfl, by omega, Nat.le_refl _, k3.trans (MExt.new hq).off, f3.new hq, updM_same, s0⟩
    · rintro i d ρ M' N hd ⟨T, last, bad, ts, o7, o8, o9, o10, o11, o12, rfl, inv⟩ hN
      obtain ⟨rfl, hi⟩ := rng_at _ _ _ _ hd
      refine ⟨trivial, ?_⟩
      refine h2 hs (by omega) inv fun T' last' bad' ts' a b c d e M'' i' => ?_
      exact hN _ _ ⟨T', last', bad', ts', _, a, b, c, d, e, rfl, i'⟩
    · rintro ρ M' ⟨T, last, bad, ts, o7, o8, o9, o10, o11, o12, rfl, inv⟩
      refine ⟨trivial, ?_⟩
      have hl := inv.len
      rw [rng_length] at hl
      exact hE (by omega) hs.np inv.off inv.fl inv.at' inv.st
  generalize pcRest = sR at rest ⊢
  generalize sp__law_draw = s1 at h1 ⊢
  conv => whnf
  refine h1 f (by decide) (by decide) fun d M1 hd0 hd1 k1 f1 => ?_
  obtain ⟨many, rfl⟩ := nat_of hd0
  conv => whnf
  refine h1 f1 (by decide) (by decide) fun d M2 hd20 hd21 k2 f2 => ?_
  conv => whnf
  have hm : many ≤ 30 := by omega
  by_cases hd : d = 1
  · rw [decide_eq_true hd]
    conv => whnf
    refine h1 f2 (by omega) (by omega) fun sp M3 hs0 hs1 k3 f3 => ?_
    exact rest many sp M3 hm ((k1.trans k2).trans k3) f3
  · rw [decide_eq_false hd]
    exact rest many (-1) M2 hm (k1.trans k2) f2
end K01
end

section
set_option Elab.async false
set_option linter.all false
set_option maxRecDepth 100000
set_option maxHeartbeats 4000000
namespace K01
open DL L2
/-! ### what a lexer's words are like -/
def TokOk (t : D) : Prop := ∃ v, Fit 1 v ∧ ∀ M, Den M t v
theorem lt3 {n : Nat} (h : n ≤ 3) : n ≤ LTX := Nat.le_trans h (by decide)
theorem tok_ok {p : D × D} {line : Int} (h1 : ∃ s, p.1 = .str s) (h2 : (∃ x, p.2 = .str x) ∨ ∃ i, p.2 = .int i) : TokOk (tok3 p line) := by
  obtain ⟨a, b⟩ := p
  obtain ⟨s, h1⟩ := h1
  dsimp only at h1 h2
  subst h1
  rcases h2 with ⟨x, rfl⟩ | ⟨i, rfl⟩
  · refine ⟨.tup [.str s, .str x, .int line], ?_, fun M => ?_⟩
    · rw [Fit]
      exact ⟨lt3 (by simp), by simp [Fits, Fit]⟩
    · unfold tok3
      simp [Den, Dens]
  · refine ⟨.tup [.str s, .int i, .int line], ?_, fun M => ?_⟩
    · rw [Fit]
      exact ⟨lt3 (by simp), by simp [Fits, Fit]⟩
    · unfold tok3
      simp [Den, Dens]
theorem tokL_ok {l : List Nat} {p : D × D} {k : Nat} (h : tokL l = some (p, k)) : (∃ s, p.1 = .str s) ∧ ((∃ x, p.2 = .str x) ∨ ∃ i, p.2 = .int i) := by
  cases l with
  | nil => cases h
  | cons c r =>
    rw [tokL_cons] at h
    split at h
    · obtain ⟨q, hq, e⟩ := Option.map_eq_some_iff.mp h
      cases e
      unfold strW at hq
      split at hq
      · cases hq; exact ⟨⟨_, rfl⟩, .inr ⟨_, rfl⟩⟩
      · split at hq
        · cases hq; exact ⟨⟨_, rfl⟩, .inl ⟨_, rfl⟩⟩
        · cases hq
    · split at h
      · cases h; exact ⟨⟨_, rfl⟩, .inl ⟨_, rfl⟩⟩
      · split at h
        · obtain ⟨q, hq, e⟩ := Option.map_eq_some_iff.mp h
          cases e
          exact ⟨⟨_, rfl⟩, .inl ⟨_, rfl⟩⟩
        · cases h
theorem lexF_ok (L : Nat) : ∀ (n : Nat) (l : List Nat) (line : Int) (acc ts : List D), lexF n l line acc = .inr ts → (∀ t ∈ acc, TokOk t) → acc.length + l.length ≤ L → (∀ t ∈ ts, TokOk t) ∧ ts.length ≤ L
  | 0, l, line, acc, ts, h, ha, hl => by
    unfold lexF at h
    cases h
    exact ⟨ha, by omega⟩
  | n + 1, [], line, acc, ts, h, ha, hl => by
    unfold lexF at h
    cases h
    exact ⟨ha, by simpa using hl⟩
  | n + 1, c :: r, line, acc, ts, h, ha, hl => by
    unfold lexF at h
    rw [List.length_cons] at hl
    split at h
    · exact lexF_ok L n _ _ _ _ h ha (by rw [List.length_drop, List.length_cons]; omega)
    · split at h
      · exact lexF_ok L n _ _ _ _ h ha (by omega)
      · split at h
        · exact lexF_ok L n _ _ _ _ h ha (by omega)
        · cases ht : tokL (c :: r) with
          | none => rw [ht] at h; cases h
          | some q =>
            obtain ⟨p, k⟩ := q
            rw [ht] at h
            have hp := tokL_pos ht
            obtain ⟨o1, o2⟩ := tokL_ok ht
            refine lexF_ok L n _ _ _ _ h (fun t m => ?_) (by rw [List.length_drop, List.length_append, List.length_cons]; simp; omega)
            rcases List.mem_append.mp m with m | m
            · exact ha t m
            · rw [List.mem_singleton.mp m]
              exact tok_ok o1 o2
theorem lex_ok {x : List Nat} {ts : List D} (h : lex x 1 [] = .inr ts) : (∀ t ∈ ts, TokOk t) ∧ ts.length ≤ x.length :=
  lexF_ok x.length _ _ _ _ _ h (fun t m => by cases m) (by simp)
theorem toks_den : ∀ ts : List D, (∀ t ∈ ts, TokOk t) → ∃ vs, Fits 1 vs ∧ ∀ M, Dens M ts vs
  | [], _ => ⟨[], by rw [Fits]; trivial, fun M => by rw [Dens]⟩
  | t :: ts, h => by
    obtain ⟨vs, f, d⟩ := toks_den ts fun u m => h u (List.mem_cons_of_mem _ m)
    obtain ⟨v, f1, d1⟩ := h t (List.mem_cons_self ..)
    exact ⟨v :: vs, by rw [Fits]; exact ⟨f1, f⟩, fun M => by rw [Dens]; exact ⟨t, ts, rfl, d1 M, d M⟩⟩
/-- one likeness for all that is told of a text -/
theorem lex_den (x : List Nat) (hx : x.length ≤ LTX) : ∃ v, Fit 3 v ∧ match lex x 1 [] with
    | .inl b => ∀ M, Den M (.tup [.str (tx "bad"), .int b]) v
    | .inr ts => ∀ M q, M q = some (.lst ts) → Den M (.tup [.str (tx "told"), .ref q]) v := by
  cases h : lex x 1 [] with
  | inl b =>
    refine ⟨.tup [.str (tx "bad"), .int b], ?_, fun M => ?_⟩
    · rw [Fit]
      exact ⟨lt3 (by simp), by simp [Fits, Fit]⟩
    · simp [Den, Dens]
  | inr ts =>
    obtain ⟨ok, hl⟩ := lex_ok h
    obtain ⟨vs, f, d⟩ := toks_den ts ok
    have e : ts.length = vs.length := (d (fun _ => none)).length
    refine ⟨.tup [.str (tx "told"), .lst vs], ?_, fun M q hq => ?_⟩
    · rw [Fit]
      refine ⟨lt3 (by simp), ?_⟩
      rw [Fits]
      refine ⟨trivial, ?_⟩
      rw [Fits]
      refine ⟨?_, by rw [Fits]; trivial⟩
      rw [Fit]
      exact ⟨by omega, f⟩
    · rw [Den]
      refine ⟨_, rfl, ?_⟩
      rw [Dens]
      refine ⟨_, _, rfl, by rw [Den], ?_⟩
      rw [Dens]
      refine ⟨_, _, rfl, ?_, by rw [Dens]⟩
      rw [Den]
      exact ⟨q, ts, rfl, hq, d M⟩
end K01
end

section
set_option Elab.async false
set_option linter.all false
set_option maxRecDepth 100000
set_option maxHeartbeats 4000000
namespace K01
open DL L2
/-! ### the law -/
open PySem PyProof.Rows in
def lwTail : QS := (qSeq (qSet 4 (qCall sp__law_told (qaCons (qVar 5) qaNil)))
    (qSeq (qIfS (qNot (qTest (qCall sp__law_same (qaCons (qVar 4) (qaCons (qVar 7) qaNil))))) (qRet (qC (.bl false))) qNext)
    (qSeq (qIfS (qTest (qOp DL.rEqD (qOp DL.rIx (qVar 4) (qC (.int 0))) (qC (.str (tx "told"))))) (qDrop (qBM "list" DL.rAppend (qOp DL.rIx (qVar 4) (qC (.int 1))) (qaCons (qTup (qaCons (qC (.str (tx "mark"))) (qaCons (qC (.str (tx "("))) (qaCons (qC (.int 1)) qaNil)))) qaNil))) qNext)
    (qRet (qCall sp__law_same (qaCons (qCall sp__law_told (qaCons (qVar 5) qaNil)) (qaCons (qVar 7) qaNil)))))))
open PySem PyProof.Rows in
def lwWay : QS := (qSeq (qIfS (qTest (qOp DL.rEqD (qVar 2) (qC (.int 0)))) (qSeq (qSet 5 (qC (.str (tx ""))))
    (qSeq (qFor (qRng1 (qaCons (qCall sp__law_draw (qaCons (qVar 1) (qaCons (qC (.int 61)) qaNil))) qaNil)) (qgName 6) (qSet 5 (qOp DL.rAdd (qVar 5) (qCall sp__law_sign (qaCons (qVar 1) qaNil)))))
    (qSet 7 (qCall sp__law_cut (qaCons (qVar 5) qaNil))))) (qAsg (qCall sp__law_pieces (qaCons (qVar 1) qaNil)) (qgTup 2 (qgCons (qgName 5) (qgCons (qgName 7) qgNil)))))
    lwTail)
open PySem PyProof.Rows in
theorem lw_eq : rd_law = (qSeq (qSet 1 (qCall sp__law_flow (qaCons (qVar 0) qaNil)))
    (qSeq (qSet 2 (qCall sp__law_draw (qaCons (qVar 1) (qaCons (qC (.int 3)) qaNil))))
    (qSeq (qSet 3 (qOp DL.rIx (qLst (qaCons (qC .non) (qaCons (qC (.int 7)) (qaCons (qC (.bl true)) (qaCons (qTup (qaCons (qC (.str (tx "a"))) qaNil)) (qaCons (qLst (qaCons (qC (.str (tx "a"))) qaNil)) (qaCons (qDis1 (tx "a") 1) (qaCons (qTup qaNil) qaNil)))))))) (qCall sp__law_draw (qaCons (qVar 1) (qaCons (qC (.int 7)) qaNil)))))
    (qSeq (qIfS (qNot (qTest (qCall sp__law_same (qaCons (qCall sp__law_told (qaCons (qVar 3) qaNil)) (qaCons (qTup (qaCons (qC (.str (tx "none"))) (qaCons (qC (.int 0)) qaNil))) qaNil))))) (qRet (qC (.bl false))) qNext)
    lwWay)))) := rfl
theorem u_flow {ns : List Int} {M : Mp} {Q : QK} {E : QX} (h : ∀ p fc M', FlowAt fc M' p → Q (.ref p) M') : sp__law_flow [.fl (ns.map D.int)] M Q E := by
  refine ⟨rfl, ?_⟩
  unfold rd__law_flow
  conv => whnf
  intro c hc
  conv => whnf
  refine ⟨sz 4 (by decide), fun p hp => ?_⟩
  have n : c ≠ p := fun z => by rw [z, updM_same] at hp; cases hp
  exact h p c _ ⟨ns, 0, 0, 17, updM_same, by rw [updM_ne n]; exact updM_same, n, by decide, by decide⟩
theorem u_sign {fc p : PySem.Addr} {M : Mp} {Q : QK} {E : QX} (f : FlowAt fc M p) (h : ∀ c M', c < 128 → MOff p M M' → FlowAt fc M' p → Q (.str [c]) M') : sp__law_sign [.ref p] M Q E := by
  refine ⟨rfl, ?_⟩
  have h1 := @u_draw
  have h2 := @u_signs
  unfold rd__law_sign
  generalize sp__law_draw = s1 at h1 ⊢
  generalize sp__law_signs = s2 at h2 ⊢
  conv => whnf
  refine h1 f (by decide) (by decide) fun d M1 hd0 hd1 k1 f1 => ?_
  conv => whnf
  by_cases hd : 0 < d
  · rw [decide_eq_true hd]
    conv => whnf
    refine h1 f1 (by decide) (by decide) fun d M2 hd20 hd21 k2 f2 => ?_
    obtain ⟨n, rfl⟩ := nat_of hd20
    conv => whnf
    refine ⟨sz _ (by decide), ?_⟩
    rw [atN]
    have hlt : n < (tx "()'\"\"; \n-05a\n\" ").length := by
      have : (tx "()'\"\"; \n-05a\n\" ").length = 15 := by decide
      omega
    obtain ⟨c, e1, _⟩ := drop_get hlt
    rw [e1]
    exact h _ _ ((by decide : ∀ c ∈ tx "()'\"\"; \n-05a\n\" ", c < 128) c (List.mem_of_getElem? e1)) (k1.trans k2) f2
  · rw [decide_eq_false hd]
    conv => whnf
    refine h2 ?_
    conv => whnf
    have hl1 : lawSigns.length = 72 := by decide
    refine ⟨sz _ (by rw [hl1]; decide), ?_⟩
    generalize hE : lawSigns ++ tx " \"#$&'(),.:;\x40[\\]^`{|}~\n" = every
    have ha : ∀ c ∈ every, c < 128 := by rw [← hE]; decide +kernel
    have hl : every.length ≤ 200 ∧ 0 < every.length := by rw [← hE]; decide +kernel
    conv => whnf
    refine ⟨sz _ (by omega), ?_⟩
    conv => whnf
    refine h1 f1 (by omega) (by omega) fun d M2 hd20 hd21 k2 f2 => ?_
    obtain ⟨n, rfl⟩ := nat_of hd20
    conv => whnf
    refine ⟨sz _ (by omega), ?_⟩
    rw [atN]
    obtain ⟨c, e1, _⟩ := drop_get (x := every) (a := n) (by omega)
    rw [e1]
    exact h _ _ (ha c (List.mem_of_getElem? e1)) (k1.trans k2) f2
theorem u_same {f d : D} {v : PV} {M : Mp} {Q : QK} {E : QX} (h1 : Den M f v) (h2 : Den M d v) (h3 : Fit 3 v) (h : ∀ M', MExt M M' → Q (.bl true) M') : sp__law_same [f, d] M Q E := ⟨f, d, v, rfl, h1, h2, h3, h⟩
theorem law_tail {x : List Nat} {d : D} {M : Mp} {o0 o1 o2 o3 o6 : Option D} (hx : x.length ≤ LTX) (hd : Due M x d) : lwTail (endsD (fun d _ => d = .bl true) (fun _ _ _ => False)) [o0, o1, o2, o3, none, some (.str x), o6, some d] M := by
  unfold lwTail
  have h1 := @u_told
  have h2 := @u_same
  generalize sp__law_told = s1 at h1 ⊢
  generalize sp__law_same = s2 at h2 ⊢
  obtain ⟨v, fit, den⟩ := lex_den x hx
  conv => whnf
  refine h1 hx ?_
  unfold Due at hd
  have hT := hd
  cases hl : lex x 1 [] with
  | inl b =>
    rw [hl] at den hd
    have hd : d = .tup [.str (tx "bad"), .int b] := hd
    subst hd
    have den : ∀ M, Den M (.tup [.str (tx "bad"), .int b]) v := den
    intro M1 k1
    conv => whnf
    refine h2 (den M1) (den M1) fit fun M2 k2 => ?_
    conv => whnf
    refine h1 hx ?_
    rw [hl]
    intro M3 k3
    conv => whnf
    exact h2 (den M3) (den M3) fit fun _ _ => rfl
  | inr ts =>
    rw [hl] at den hd
    obtain ⟨q, hq, rfl⟩ := hd
    have den : ∀ M q, M q = some (.lst ts) → Den M (.tup [.str (tx "told"), .ref q]) v := den
    intro p M1 hp k1 hp1
    conv => whnf
    refine h2 (den M1 p hp1) (den M1 q (k1 _ _ hq)) fit fun M2 k2 => ?_
    conv => whnf
    have hp2 := k2 _ _ hp1
    have hn : q ≠ p := fun z => by rw [z, hp] at hq; cases hq
    have hq2 := k2 _ _ (k1 _ _ hq)
    have hts := (lex_ok hl).2
    have hLT : LTX = 1000000 := rfl
    refine ⟨by show tyO (M2 p) = some "list"; rw [hp2]; rfl, ?_⟩
    conv => whnf
    refine ⟨sz 3 (by decide), ?_⟩
    conv => whnf
    rw [hp2]
    conv => whnf
    refine ⟨by have : PySem.sizeLine = 16777216 := PySem.sizeLine_eq; omega, ?_⟩
    refine h1 hx ?_
    rw [hl]
    intro p2 M3 hp2' k3 hp3
    conv => whnf
    exact h2 (den M3 p2 hp3) (den M3 q (k3 _ _ (by rw [updM_ne hn]; exact hq2))) fit fun _ _ => rfl
theorem law_way {fc p : PySem.Addr} {M : Mp} {n : Nat} {o0 o3 : Option D} (f : FlowAt fc M p) : lwWay (endsD (fun d _ => d = .bl true) (fun _ _ _ => False)) [o0, some (.ref p), some (.int n), o3, none, none, none, none] M := by
  unfold lwWay
  have h1 := @u_draw
  have h2 := @u_sign
  have h3 := @u_cut
  have h4 := @u_pieces
  have h5 := @law_tail
  generalize sp__law_draw = s1 at h1 ⊢
  generalize sp__law_sign = s2 at h2 ⊢
  generalize sp__law_cut = s3 at h3 ⊢
  generalize sp__law_pieces = s4 at h4 ⊢
  generalize lwTail = s5 at h5 ⊢
  have hLT : LTX = 1000000 := rfl
  conv => whnf
  by_cases hn : (n : Int) = 0
  · rw [decide_eq_true hn]
    conv => whnf
    refine h1 f (by decide) (by decide) fun d M1 hd0 hd1 k1 f1 => ?_
    conv => whnf
    refine ⟨by omega, by omega, ?_⟩
    refine forL_inv (fun i ρ M' => FlowAt fc M' p ∧ ∃ (x : List Nat) (o : Option D), ρ = [o0, some (.ref p), some (.int n), o3, none, some (.str x), o, none] ∧ x.length = i ∧ Asc x) ?_ ?_ ⟨f1, tx "", _, rfl, by decide, fun c m => by rw [show tx "" = [] by decide] at m; cases m⟩
    · rintro i d ρ M' N hd ⟨f2, x, o, rfl, hx, hA⟩ hN
      obtain ⟨rfl, hi⟩ := rng_at _ _ _ _ hd
      refine ⟨trivial, ?_⟩
      conv => whnf
      refine h2 f2 fun c M3 hc k3 f3 => ?_
      conv => whnf
      refine ⟨lt_size (by simp; omega), ?_⟩
      refine hN _ _ ⟨f3, x ++ [c], _, rfl, by simp [hx], fun e m => ?_⟩
      rcases List.mem_append.mp m with m | m
      · exact hA e m
      · rw [List.mem_singleton.mp m]; exact hc
    · rintro ρ M' ⟨f2, x, o, rfl, hx, hA⟩
      refine ⟨trivial, ?_⟩
      rw [rng_length] at hx
      have hxl : x.length ≤ LTX := by omega
      conv => whnf
      refine h3 hxl hA ?_
      cases hl : lex x 1 [] with
      | inl b =>
        intro M4 k4
        conv => whnf
        exact h5 hxl (by unfold Due; rw [hl])
      | inr ts =>
        intro q M4 hq k4 hq4
        conv => whnf
        exact h5 hxl (by unfold Due; rw [hl]; exact ⟨q, hq4, rfl⟩)
  · rw [decide_eq_false hn]
    conv => whnf
    refine h4 f fun x d M1 hx hd k1 => ?_
    conv => whnf
    refine ⟨rfl, ?_⟩
    exact h5 hx hd
theorem pure_law (ns : List Int) (M : Mp) (hl : ns.length ≤ 63) (hM : ∀ p, M p = none) : sp_law [.fl (ns.map D.int)] M (fun d _ => d = .bl true) (fun _ _ _ => False) := by
  refine ⟨rfl, ?_⟩
  rw [lw_eq]
  have h1 := @u_flow
  have h2 := @u_draw
  have h3 := @u_told_no
  have h4 := @u_same
  have h5 := @law_way
  generalize sp__law_flow = s1 at h1 ⊢
  generalize sp__law_draw = s2 at h2 ⊢
  generalize sp__law_told = s3 at h3 ⊢
  generalize sp__law_same = s4 at h4 ⊢
  generalize lwWay = s5 at h5 ⊢
  conv => whnf
  refine h1 fun p fc M1 f1 => ?_
  conv => whnf
  refine h2 f1 (by decide) (by decide) fun d M2 hd0 hd1 k2 f2 => ?_
  obtain ⟨n, rfl⟩ := nat_of hd0
  conv => whnf
  refine ⟨sz 1 (by decide), ?_⟩
  conv => whnf
  refine ⟨sz 1 (by decide), fun a ha => ?_⟩
  have f3 := f2.new (o := .lst [.str (tx "a")]) ha
  conv => whnf
  intro b hb
  conv => whnf
  refine ⟨Nat.zero_le _, ?_⟩
  conv => whnf
  refine ⟨sz 7 (by decide), fun c hc => ?_⟩
  conv => whnf
  have nab : a ≠ b := fun z => by rw [← z, updM_same] at hb; cases hb
  have nac : a ≠ c := fun z => by rw [← z, updM_ne nab, updM_same] at hc; cases hc
  have nbc : b ≠ c := fun z => by rw [← z, updM_same] at hc; cases hc
  have qp := flow_ne ((f2.new ha).new hb) hc
  have qa := flow_ne f2 ha
  have qb := flow_ne (f2.new ha) hb
  refine h2 (((f2.new ha).new hb).new hc) (by decide) (by decide) fun d M3 hd20 hd21 k3 f3 => ?_
  obtain ⟨m, rfl⟩ := nat_of hd20
  have hMc := k3 _ _ qp updM_same
  have hMb := k3 b _ qb (by rw [updM_ne nbc]; exact updM_same)
  have hMa := k3 a _ qa (by rw [updM_ne nac, updM_ne nab]; exact updM_same)
  conv => whnf
  rw [hMc]
  conv => whnf
  rw [atN]
  obtain ⟨t, ht, et⟩ : ∃ t : D, NoStr t M3 ∧ [D.non, D.int 7, D.bl true, D.tup [D.str (tx "a")], D.ref a, D.ref b, D.tup []][m]? = some t := by
    have hm : m < 7 := by omega
    match m, hm with
    | 0, _ => exact ⟨_, ⟨"NoneType", rfl, rfl⟩, rfl⟩
    | 1, _ => exact ⟨_, ⟨"int", rfl, rfl⟩, rfl⟩
    | 2, _ => exact ⟨_, ⟨"bool", rfl, rfl⟩, rfl⟩
    | 3, _ => exact ⟨_, ⟨"tuple", rfl, rfl⟩, rfl⟩
    | 4, _ => exact ⟨_, ⟨"list", by show tyO (M3 a) = _; rw [hMa]; rfl, rfl⟩, rfl⟩
    | 5, _ => exact ⟨_, ⟨"dict", by show tyO (M3 b) = _; rw [hMb]; rfl, rfl⟩, rfl⟩
    | 6, _ => exact ⟨_, ⟨"tuple", rfl, rfl⟩, rfl⟩
  rw [et]
  conv => whnf
  refine h3 ht ?_
  conv => whnf
  refine ⟨sz 2 (by decide), ?_⟩
  conv => whnf
  refine h4 (v := .tup [.str (tx "none"), .int 0]) (by simp [Den, Dens]) (by simp [Den, Dens]) (by rw [Fit]; exact ⟨lt3 (by simp), by simp [Fits, Fit]⟩) fun M4 k4 => ?_
  conv => whnf
  exact h5 (f3.ext k4)
end K01
end

section
set_option Elab.async false
set_option linter.all false
open PySem PySem.W PyProof.Rows
set_option maxRecDepth 100000 in
set_option maxHeartbeats 0 in
theorem PySem.Challenge.cw_keptreturns_k01_words_of_a_text_holds : PySem.Challenge.rw_keptreturns_k01_words_of_a_text.Holds := by
  w_on; o_law; z_head; (case hw => w_witness2)
  k_fill
  refine DL.dl_end (k := 14) (x := "script") (sp := K01.sp_law) rfl (by decide) (by rfl) ⟨rfl, by decide, by decide⟩ (fun _ => rfl) ?F (fun ns M hl hM => K01.pure_law ns M hl hM)
  intro w mg fa h X G hmg
  have g : K01.Gb PySem.Challenge.pw_keptreturns_k01_words_of_a_text _ mg := {
    f_is_sign := DL.defAt_mk X G (by k_is) (by k_is) (by k_is) (by k_is) (fun _ _ _ _ _ _ us hl => match us, hl with | [_], _ => rfl)
    f_is_like_integer := DL.defAt_mk X G (by k_is) (by k_is) (by k_is) (by k_is) (fun _ _ _ _ _ _ us hl => match us, hl with | [_], _ => rfl)
    f_is_symbol := DL.defAt_mk X G (by k_is) (by k_is) (by k_is) (by k_is) (fun _ _ _ _ _ _ us hl => match us, hl with | [_], _ => rfl)
    f_is_integer_word := DL.defAt_mk X G (by k_is) (by k_is) (by k_is) (by k_is) (fun _ _ _ _ _ _ us hl => match us, hl with | [_], _ => rfl)
    f_stretch_end := DL.defAt_mk X G (by k_is) (by k_is) (by k_is) (by k_is) (fun _ _ _ _ _ _ us hl => match us, hl with | [_, _], _ => rfl)
    f_line_end := DL.defAt_mk X G (by k_is) (by k_is) (by k_is) (by k_is) (fun _ _ _ _ _ _ us hl => match us, hl with | [_, _], _ => rfl)
    f_text_end := DL.defAt_mk X G (by k_is) (by k_is) (by k_is) (by k_is) (fun _ _ _ _ _ _ us hl => match us, hl with | [_, _], _ => rfl)
    f_stretch_word := DL.defAt_mk X G (by k_is) (by k_is) (by k_is) (by k_is) (fun _ _ _ _ _ _ us hl => match us, hl with | [_, _], _ => rfl)
    f_word_from := DL.defAt_mk X G (by k_is) (by k_is) (by k_is) (by k_is) (fun _ _ _ _ _ _ us hl => match us, hl with | [_, _, _], _ => rfl)
    f_words := DL.defAt_mk X G (by k_is) (by k_is) (by k_is) (by k_is) (fun _ _ _ _ _ _ us hl => match us, hl with | [_], _ => rfl)
    f__law_flow := DL.defAt_mk X G (by k_is) (by k_is) (by k_is) (by k_is) (fun _ _ _ _ _ _ us hl => match us, hl with | [_], _ => rfl)
    f__law_more := DL.defAt_mk X G (by k_is) (by k_is) (by k_is) (by k_is) (fun _ _ _ _ _ _ us hl => match us, hl with | [_], _ => rfl)
    f__law_draw := DL.defAt_mk X G (by k_is) (by k_is) (by k_is) (by k_is) (fun _ _ _ _ _ _ us hl => match us, hl with | [_, _], _ => rfl)
    f__law_same := DL.defAt_mk X G (by k_is) (by k_is) (by k_is) (by k_is) (fun _ _ _ _ _ _ us hl => match us, hl with | [_, _], _ => rfl)
    f__law_signs := DL.defAt_mk X G (by k_is) (by k_is) (by k_is) (by k_is) (fun _ _ _ _ _ _ us hl => match us, hl with | [], _ => rfl)
    f__law_sign := DL.defAt_mk X G (by k_is) (by k_is) (by k_is) (by k_is) (fun _ _ _ _ _ _ us hl => match us, hl with | [_], _ => rfl)
    f__law_number := DL.defAt_mk X G (by k_is) (by k_is) (by k_is) (by k_is) (fun _ _ _ _ _ _ us hl => match us, hl with | [_], _ => rfl)
    f__law_stretch := DL.defAt_mk X G (by k_is) (by k_is) (by k_is) (by k_is) (fun _ _ _ _ _ _ us hl => match us, hl with | [_, _], _ => rfl)
    f__law_end := DL.defAt_mk X G (by k_is) (by k_is) (by k_is) (by k_is) (fun _ _ _ _ _ _ us hl => match us, hl with | [_, _], _ => rfl)
    f__law_quote := DL.defAt_mk X G (by k_is) (by k_is) (by k_is) (by k_is) (fun _ _ _ _ _ _ us hl => match us, hl with | [_, _], _ => rfl)
    f__law_cut := DL.defAt_mk X G (by k_is) (by k_is) (by k_is) (by k_is) (fun _ _ _ _ _ _ us hl => match us, hl with | [_], _ => rfl)
    f__law_inner := DL.defAt_mk X G (by k_is) (by k_is) (by k_is) (by k_is) (fun _ _ _ _ _ _ us hl => match us, hl with | [_], _ => rfl)
    f__law_symbol := DL.defAt_mk X G (by k_is) (by k_is) (by k_is) (by k_is) (fun _ _ _ _ _ _ us hl => match us, hl with | [_], _ => rfl)
    f__law_piece := DL.defAt_mk X G (by k_is) (by k_is) (by k_is) (by k_is) (fun _ _ _ _ _ _ us hl => match us, hl with | [_], _ => rfl)
    f__law_fault := DL.defAt_mk X G (by k_is) (by k_is) (by k_is) (by k_is) (fun _ _ _ _ _ _ us hl => match us, hl with | [_], _ => rfl)
    f__law_space := DL.defAt_mk X G (by k_is) (by k_is) (by k_is) (by k_is) (fun _ _ _ _ _ _ us hl => match us, hl with | [_], _ => rfl)
    f__law_pieces := DL.defAt_mk X G (by k_is) (by k_is) (by k_is) (by k_is) (fun _ _ _ _ _ _ us hl => match us, hl with | [_], _ => rfl)
    f__law_told := DL.defAt_mk X G (by k_is) (by k_is) (by k_is) (by k_is) (fun _ _ _ _ _ _ us hl => match us, hl with | [_], _ => rfl)
    f_law := DL.defAt_mk X G (by k_is) (by k_is) (by k_is) (by k_is) (fun _ _ _ _ _ _ us hl => match us, hl with | [_], _ => rfl)
    n_abs := PySem.W.mg_none_of X G (by k_is)
    n_all := PySem.W.mg_none_of X G (by k_is)
    n_bool := PySem.W.mg_none_of X G (by k_is)
    n_int := PySem.W.mg_none_of X G (by k_is)
    n_isinstance := PySem.W.mg_none_of X G (by k_is)
    n_len := PySem.W.mg_none_of X G (by k_is)
    n_list := PySem.W.mg_none_of X G (by k_is)
    n_range := PySem.W.mg_none_of X G (by k_is)
    n_str := PySem.W.mg_none_of X G (by k_is)
    n_tuple := PySem.W.mg_none_of X G (by k_is)
    k_BadText := PySem.W.mg_of X G (by k_is)
    e_BadText := DL.supX_mk X G (by k_is) (by decide +kernel) (by k_is) (by k_is) (by k_is) (by k_is) (by k_is) (by k_is) (by k_is) (by k_is) (by k_is) rfl rfl (by k_is) (by first | k_is | kernel_rfl) (by k_is) (by k_is) (by k_is) (by k_is) (by rfl)
    d_BadText := (by k_is)
    k_NoText := PySem.W.mg_of X G (by k_is)
    e_NoText := DL.cls0_mk X G PySem.F.excBase_ValueError (by k_is) (by first | k_is | kernel_rfl) (by k_is) (by k_is) (by k_is)
    x_line := (by kernel_rfl)
    g_FIGURES := PySem.W.mg_of X G (by k_is)
    g_LEAST := PySem.W.mg_of X G (by k_is)
    g_MARKS := DL.tupAt_mk X G (by k_is) (by k_is) (by decide) rfl
    g_MOST := PySem.W.mg_of X G (by k_is)
    g_MOST_FIGURES := PySem.W.mg_of X G (by k_is)
    g_MOST_SYMBOL := PySem.W.mg_of X G (by k_is)
    g_QUOTE := PySem.W.mg_of X G (by k_is)
    g_SIGNS := PySem.W.mg_of X G (by k_is)
    y__law_told_0 := (by kernel_rfl) }
  exact DL.dl_law hmg g.f_law (fun base => K01.o_law g)
end
