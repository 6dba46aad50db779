import PyProof.Rows.All
import Wide.All
import OpenK.AllK
import Wide.FinOn
import HandS.ForMost
import PySem.Challenge.RW_sentintime_k69_signs_of_two_arms
import HandS.TupAny
import HandS.TupLe
import HandS.SortOrd
import HandS.SortRule
import PyProof.NeData
import HandS.Wide
import HandS.IsInst
import HandS.Text
import HandS.Conv
import HandS.More
import HandS.Style
import KE.SortData
import KE.DataMinMax
import KE.KTupSum
import HandS.RaiseMore
import HandS.NoneIn
import HandS.Small
import KE.DataFind
import HandS.Strs
import HandS.SetFor
import HandS.DictComp
import KE.KDictPairs
set_option Elab.async false
set_option linter.all false
set_option maxRecDepth 100000
set_option autoImplicit false
/-! The value layer, part 1: data by value, what represents them, the state of a def's names. -/
namespace VL
open PySem PySem.Spec L2

/-- pure data -/
inductive D where
  | non | bl (b : Bool) | int (i : Int) | str (x : Str) | tup (ds : List D) | lst (ds : List D) | dct (ks : List Key) (ds : List D) | frz (ds : List D) | ty (n : String)

/-- a list of the module's own -/
def KL (K : PySem.W.Frag) (a : Addr) (xs : List V) : Prop := ∃ (o : Obj) (its : Array Value) (n : Nat), K.lookup a = some o ∧ o.cls = .type "list" ∧ o.dict = none ∧ o.data = .seq its n ∧ its.size ≤ sizeLine ∧ Vals xs its.toList

abbrev AS := Addr → Prop
/-- what may be written now (M), what no value may lean on (W) -/
structure Zn where
  M : AS
  W : AS

/-- the script: a list that is known to the object, or one of the module's -/
def FL (K : PySem.W.Frag) (H : Hp) (W : AS) (a : Addr) (vs : List V) : Prop := (¬ W a ∧ ∃ o, H a = some (.frz o (.lst vs))) ∨ KL K a vs

/-- a tuple that is known to have no attributes of its own -/
def TupAt (H : Hp) (a : Addr) (vs : List V) : Prop := ∃ o, H a = some (.frz o (.tup vs)) ∧ o.dict = none
theorem TupAt.seq {K : PySem.W.Frag} {H : Hp} {a : Addr} {vs : List V} (t : TupAt H a vs) : SqT K H a vs := .inl (.inr ⟨t.choose, t.choose_spec.1⟩)
mutual
inductive Rep (K : PySem.W.Frag) (H : Hp) (W : AS) : V → D → Prop
  | non : Rep K H W .non .non
  | bl (b : Bool) : Rep K H W (.bl b) (.bl b)
  | int (i : Int) : Rep K H W (.int i) (.int i)
  | str (x : Str) : Rep K H W (.str x) (.str x)
  | ty (n : String) : Rep K H W (.ty n) (.ty n)
  | tup {a : Addr} {vs : List V} {ds : List D} : ¬ W a → TupAt H a vs → Reps K H W vs ds → Rep K H W (.ref a) (.tup ds)
  | lst {a : Addr} {vs : List V} {ds : List D} : ¬ W a → H a = some (.lst vs) → Reps K H W vs ds → Rep K H W (.ref a) (.lst ds)
  | dct {a : Addr} {ks : List Key} {vs : List V} {ds : List D} : ¬ W a → H a = some (.dK (ks.zip vs)) → ks.length = vs.length → Reps K H W vs ds → Rep K H W (.ref a) (.dct ks ds)
  | frz {a : Addr} {vs : List V} {ds : List D} : FL K H W a vs → Reps K H W vs ds → Rep K H W (.ref a) (.frz ds)
inductive Reps (K : PySem.W.Frag) (H : Hp) (W : AS) : List V → List D → Prop
  | nil : Reps K H W [] []
  | cons {v : V} {d : D} {vs : List V} {ds : List D} : Rep K H W v d → Reps K H W vs ds → Reps K H W (v :: vs) (d :: ds)
end

/-- what an object that is owned holds -/
def Own (K : PySem.W.Frag) (H : Hp) (W : AS) (a : Addr) : D → Prop
  | .lst ds => ∃ vs, H a = some (.lst vs) ∧ Reps K H W vs ds
  | .dct ks ds => ∃ vs, H a = some (.dK (ks.zip vs)) ∧ ks.length = vs.length ∧ Reps K H W vs ds
  | _ => False

section
variable {K : PySem.W.Frag} {H H' H1 : Hp} {W W' W1 : AS} {v : V} {d : D} {vs us : List V} {ds es : List D} {a : Addr}

/-- the representation stays when what it may lean on stays -/
structure Ks (H : Hp) (W : AS) (H' : Hp) (W' : AS) : Prop where
  h : ∀ b o, ¬ W b → H b = some o → H' b = some o
  w : ∀ b, W' b → W b ∨ H b = none

theorem at_ks {u : HO} (k : Ks H W H' W') (n : ¬ W a) (r : H a = some u) : ¬ W' a ∧ H' a = some u :=
  ⟨fun z => (k.w a z).elim n fun q => (by rw [r] at q; cases q), k.h a _ n r⟩
theorem TupAt.ks (k : Ks H W H' W') (n : ¬ W a) (t : TupAt H a vs) : ¬ W' a ∧ TupAt H' a vs := by
  obtain ⟨o, h, d⟩ := t
  exact ⟨(at_ks k n h).1, o, (at_ks k n h).2, d⟩
theorem FL.ks (k : Ks H W H' W') (x : FL K H W a vs) : FL K H' W' a vs := x.elim (fun ⟨n, o, r⟩ => .inl ⟨(at_ks k n r).1, o, (at_ks k n r).2⟩) .inr
theorem FL.seq (x : FL K H W a vs) : SqL K H a vs := x.elim (fun ⟨_, o, r⟩ => .inl (.inr ⟨o, r⟩)) .inr
mutual
theorem Rep.ks (k : Ks H W H' W') : ∀ {v : V} {d : D}, Rep K H W v d → Rep K H' W' v d
  | _, _, .non => .non
  | _, _, .bl b => .bl b
  | _, _, .int b => .int b
  | _, _, .str b => .str b
  | _, _, .ty b => .ty b
  | _, _, .tup n t r => .tup (t.ks k n).1 (t.ks k n).2 (Reps.ks k r)
  | _, _, .lst n t r => .lst (at_ks k n t).1 (at_ks k n t).2 (Reps.ks k r)
  | _, _, .dct n t l r => .dct (at_ks k n t).1 (at_ks k n t).2 l (Reps.ks k r)
  | _, _, .frz t r => .frz (t.ks k) (Reps.ks k r)
theorem Reps.ks (k : Ks H W H' W') : ∀ {vs : List V} {ds : List D}, Reps K H W vs ds → Reps K H' W' vs ds
  | _, _, .nil => .nil
  | _, _, .cons r t => .cons (Rep.ks k r) (Reps.ks k t)
end
theorem Ks.same (s : Same H H') : Ks H W H' W := ⟨fun b o _ e => s b o e, fun _ z => .inl z⟩
theorem Ks.sub (s : ∀ b, W' b → W b) : Ks H W H W' := ⟨fun _ _ _ e => e, fun b z => .inl (s b z)⟩
theorem Ks.refl : Ks H W H W := ⟨fun _ _ _ e => e, fun _ z => .inl z⟩
theorem Ks.trans {H2 : Hp} {W2 : AS} (a : Ks H W H1 W1) (b : Ks H1 W1 H2 W2) : Ks H W H2 W2 := by
  have nn : ∀ b o, ¬ W b → H b = some o → ¬ W1 b := fun b o n e z => (a.w b z).elim n fun q => by rw [e] at q; cases q
  refine ⟨fun c o n e => b.h c o (nn c o n e) (a.h c o n e), fun c z => ?_⟩
  rcases b.w c z with q | q
  · exact a.w c q
  · by_cases n : W c
    · exact .inl n
    · refine .inr ?_
      cases e : H c with
      | none => rfl
      | some o => rw [a.h c o n e] at q; cases q
theorem Reps.length : ∀ {vs : List V} {ds : List D}, Reps K H W vs ds → vs.length = ds.length
  | _, _, .nil => rfl
  | _, _, .cons _ t => congrArg (· + 1) (Reps.length t)
theorem Reps.get : ∀ {vs : List V} {ds : List D} {i : Nat} {d : D}, Reps K H W vs ds → ds[i]? = some d → ∃ v, vs[i]? = some v ∧ Rep K H W v d
  | _, _, _, _, .nil, e => by simp at e
  | _, _, 0, _, .cons r _, e => by simp at e; subst e; exact ⟨_, rfl, r⟩
  | _, _, i + 1, d, .cons _ t, e => by
    obtain ⟨u, h1, h2⟩ := Reps.get (i := i) (d := d) t (by simpa using e)
    exact ⟨u, by simpa using h1, h2⟩
theorem Reps.getV : ∀ {vs : List V} {ds : List D} {i : Nat} {v : V}, Reps K H W vs ds → vs[i]? = some v → ∃ d, ds[i]? = some d ∧ Rep K H W v d
  | _, _, _, _, .nil, e => by simp at e
  | _, _, 0, _, .cons r _, e => by simp at e; subst e; exact ⟨_, rfl, r⟩
  | _, _, i + 1, d, .cons _ t, e => by
    obtain ⟨u, h1, h2⟩ := Reps.getV (i := i) (v := d) t (by simpa using e)
    exact ⟨u, by simpa using h1, h2⟩
theorem Reps.append : ∀ {vs us : List V} {ds es : List D}, Reps K H W vs ds → Reps K H W us es → Reps K H W (vs ++ us) (ds ++ es)
  | _, _, _, _, .nil, s => s
  | _, _, _, _, .cons r t, s => .cons r (Reps.append t s)
theorem Reps.take : ∀ {vs : List V} {ds : List D} (n : Nat), Reps K H W vs ds → Reps K H W (vs.take n) (ds.take n)
  | _, _, 0, _ => .nil
  | _, _, _ + 1, .nil => .nil
  | _, _, n + 1, .cons r t => .cons r (Reps.take n t)
theorem Reps.drop : ∀ {vs : List V} {ds : List D} (n : Nat), Reps K H W vs ds → Reps K H W (vs.drop n) (ds.drop n)
  | _, _, 0, r => r
  | _, _, _ + 1, .nil => .nil
  | _, _, n + 1, .cons _ t => Reps.drop n t
theorem Reps.reverse {vs : List V} {ds : List D} (h : Reps K H W vs ds) : Reps K H W vs.reverse ds.reverse := by
  induction vs generalizing ds with
  | nil => cases h; exact .nil
  | cons v vs ih => cases h with
    | cons r t => rw [List.reverse_cons, List.reverse_cons]; exact (ih t).append (.cons r .nil)
theorem Reps.dropLast {vs : List V} {ds : List D} (h : Reps K H W vs ds) : Reps K H W vs.dropLast ds.dropLast := by
  rw [List.dropLast_eq_take, List.dropLast_eq_take, h.length]
  exact h.take _
theorem Reps.eraseIdx : ∀ {vs : List V} {ds : List D} (i : Nat), Reps K H W vs ds → Reps K H W (vs.eraseIdx i) (ds.eraseIdx i)
  | _, _, _, .nil => .nil
  | _, _, 0, .cons _ t => t
  | _, _, i + 1, .cons r t => .cons r (Reps.eraseIdx i t)
theorem Reps.set {x : V} {d : D} (q : Rep K H W x d) : ∀ {vs : List V} {ds : List D} (i : Nat), Reps K H W vs ds → Reps K H W (vs.set i x) (ds.set i d)
  | _, _, _, .nil => .nil
  | _, _, 0, .cons _ t => .cons q t
  | _, _, i + 1, .cons r t => .cons r (Reps.set q i t)
theorem Own.ks (k : Ks H W H' W') (e : H' a = H a) (x : Own K H W a d) : Own K H' W' a d := by
  cases d with
  | lst ds => obtain ⟨vs, h, r⟩ := x; exact ⟨vs, e.trans h, r.ks k⟩
  | dct ks ds => obtain ⟨vs, h, l, r⟩ := x; exact ⟨vs, e.trans h, l, r.ks k⟩
  | _ => exact x.elim
theorem Own.there (x : Own K H W a d) : ∃ o, H a = some o := by
  cases d with
  | lst ds => obtain ⟨vs, h, r⟩ := x; exact ⟨_, h⟩
  | dct ks ds => obtain ⟨vs, h, l, r⟩ := x; exact ⟨_, h⟩
  | _ => exact x.elim
theorem Own.mut (x : Own K H W a d) : Mut (H a) := by
  cases d with
  | lst ds => obtain ⟨vs, h, r⟩ := x; rw [h]; trivial
  | dct ks ds => obtain ⟨vs, h, l, r⟩ := x; rw [h]; trivial
  | _ => exact x.elim
/-- an owned object is given away -/
theorem Own.rep (x : Own K H W a d) (s : ∀ b, W' b → W b) (n : ¬ W' a) : Rep K H W' (.ref a) d := by
  cases d with
  | lst ds => obtain ⟨vs, h, r⟩ := x; exact .lst n h (r.ks (.sub s))
  | dct ks ds => obtain ⟨vs, h, l, r⟩ := x; exact .dct n h l (r.ks (.sub s))
  | _ => exact x.elim
end

/-! ### the state of the names -/
inductive Tag where
  | shr | own | byr | lkO | lkB
  deriving DecidableEq
abbrev MS := List (Option (Tag × D))
/-- the slot -/
@[simp] def sl : MS → Nat → Option (Tag × D)
  | [], _ => none
  | x :: _, 0 => x
  | _ :: m, i + 1 => sl m i
theorem sl_get : ∀ {m : MS} {i : Nat} {x : Tag × D}, sl m i = some x → m[i]? = some (some x)
  | _ :: _, 0, _, h => congrArg some h
  | _ :: m, i + 1, _, h => by
    rw [List.getElem?_cons_succ]
    exact sl_get (m := m) h
/-- the entry of a def: what its callers own, the heap, what it is handed by reference -/
structure Ct where
  W0 : AS
  H0 : Hp
  args : List (Nat × Addr)
  lks : List (Nat × Addr)
  res : List Addr
def Ct.R (C : Ct) : AS := fun b => ∃ i, (i, b) ∈ C.args

structure SR (K : PySem.W.Frag) (C : Ct) (Z : Zn) (m : MS) (σ : L2.St) (H : Hp) : Prop where
  len : m.length = σ.length
  shr : ∀ (i : Nat) (d : D), m[i]? = some (some (Tag.shr, d)) → ∃ v, σ[i]? = some (some v) ∧ Rep K H Z.W v d
  own : ∀ (i : Nat) (t : Tag) (d : D), m[i]? = some (some (t, d)) → t ≠ .shr → ∃ a, σ[i]? = some (some (.ref a)) ∧ Z.W a ∧ Own K H Z.W a d ∧ (t = .own ∨ t = .byr → Z.M a) ∧ (t = .own ∨ t = .lkO → C.H0 a = none) ∧ (t = .byr ∨ t = .lkB → C.R a)
  inj : ∀ (i j : Nat) (ti tj : Tag) (di dj : D) (a : Addr), m[i]? = some (some (ti, di)) → m[j]? = some (some (tj, dj)) → ti ≠ .shr → tj ≠ .shr → σ[i]? = some (some (.ref a)) → σ[j]? = some (some (.ref a)) → i = j
  base : ∀ b, C.W0 b → Z.W b
  keep : ∀ b o, C.H0 b = some o → ¬ C.R b → H b = some o
  mr : ∀ b, Z.M b → C.R b ∨ C.H0 b = none
  mw : ∀ b, Z.M b → Z.W b
  wdom : ∀ b, Z.W b → H b ≠ none
  w0d : ∀ b, C.W0 b → C.H0 b ≠ none
  r0 : ∀ b, C.R b → C.W0 b
  lck : ∀ (i : Nat) (t : Tag) (d : D) (a : Addr), m[i]? = some (some (t, d)) → (t = .lkO ∨ t = .lkB) → σ[i]? = some (some (.ref a)) → ¬ Z.M a
  res : ∀ b ∈ C.res, Z.W b ∧ ¬ Z.M b ∧ C.H0 b = none ∧ ∀ (i : Nat) (t : Tag) (d : D), m[i]? = some (some (t, d)) → t ≠ .shr → σ[i]? ≠ some (some (.ref b))
  lkd : ∀ p ∈ C.lks, ∃ t d, (t = Tag.lkO ∨ t = Tag.lkB) ∧ m[p.1]? = some (some (t, d)) ∧ σ[p.1]? = some (some (.ref p.2))
  byr : ∀ p ∈ C.args, ∃ t d, (t = Tag.byr ∨ t = Tag.lkB) ∧ m[p.1]? = some (some (t, d)) ∧ σ[p.1]? = some (some (.ref p.2))

/-- how a state goes on -/
structure Ev (Z : Zn) (H : Hp) (Z' : Zn) (H' : Hp) : Prop where
  h : ∀ b o, ¬ Z.M b → H b = some o → H' b = some o
  m : ∀ b, Z'.M b → Z.M b ∨ H b = none
  w : ∀ b, Z'.W b → Z.W b ∨ H b = none
  d : ∀ b, H b ≠ none → H' b ≠ none
section
variable {K : PySem.W.Frag} {C : Ct} {Z Z' Z1 Z2 : Zn} {m m' : MS} {σ : L2.St} {H H' H1 H2 : Hp} {v : V} {d : D} {a : Addr} {i : Nat} {t : Tag}
theorem Ev.refl : Ev Z H Z H := ⟨fun _ _ _ e => e, fun _ z => .inl z, fun _ z => .inl z, fun _ z => z⟩
theorem Ev.trans (a : Ev Z H Z1 H1) (b : Ev Z1 H1 Z2 H2) : Ev Z H Z2 H2 := by
  have back : ∀ c, H1 c = none → H c = none := fun c q => by
    cases e : H c with
    | none => rfl
    | some o => exact absurd q (a.d c (by rw [e]; simp))
  refine ⟨fun c o n e => b.h c o (fun z => (a.m c z).elim n fun q => by rw [e] at q; cases q) (a.h c o n e), fun c z => ?_, fun c z => ?_, fun c z => b.d c (a.d c z)⟩
  · exact (b.m c z).elim (a.m c) fun q => .inr (back c q)
  · exact (b.w c z).elim (a.w c) fun q => .inr (back c q)
theorem Ev.ks (e : Ev Z H Z' H') (mw : ∀ b, Z.M b → Z.W b) : Ks H Z.W H' Z'.W := ⟨fun b o n q => e.h b o (fun z => n (mw b z)) q, e.w⟩
theorem Ev.same (s : Same H H') : Ev Z H Z H' := ⟨fun b o _ e => s b o e, fun _ z => .inl z, fun _ z => .inl z, fun b z q => by
  cases e : H b with
  | none => exact z e
  | some o => rw [s b o e] at q; cases q⟩
theorem same_new {p : Addr} {o : HO} (h : H p = none) : Same H (upd H p o) := fun b x e => by
  rw [upd_ne (ne_of_none e h)]; exact e
theorem SR.ks (S : SR K C Z m σ H) (e : Ev Z H Z' H') : Ks H Z.W H' Z'.W := e.ks S.mw
/-- the heap grows, more may be owned -/
theorem SR.grow (S : SR K C Z m σ H) (s : Same H H') (hw : ∀ b, Z.W b → Z'.W b) (hw' : ∀ b, Z'.W b → Z.W b ∨ (H b = none ∧ H' b ≠ none)) (hm : ∀ b, Z.M b → Z'.M b) (hm' : ∀ b, Z'.M b → Z'.W b ∧ (Z.M b ∨ (C.H0 b = none ∧ H b = none))) : SR K C Z' m σ H' := by
  have k : Ks H Z.W H' Z'.W := ⟨fun b o _ q => s b o q, fun b z => (hw' b z).imp id (·.1)⟩
  refine ⟨S.len, fun i d e => ?_, fun i t d e n => ?_, S.inj, fun b z => hw b (S.base b z), fun b o e n => s b o (S.keep b o e n), fun b z => ?_, fun b z => (hm' b z).1, fun b z => ?_, S.w0d, S.r0, fun i t d a e n h z => ?_, fun b hb => ?_, S.lkd, S.byr⟩
  · obtain ⟨v, h1, r⟩ := S.shr i d e
    exact ⟨v, h1, r.ks k⟩
  · obtain ⟨a, h1, h2, h3, h4, h5⟩ := S.own i t d e n
    obtain ⟨o, ho⟩ := h3.there
    exact ⟨a, h1, hw a h2, h3.ks k (by rw [s a o ho, ho]), fun z => hm a (h4 z), h5⟩
  · exact (hm' b z).2.elim (S.mr b) fun q => .inr q.1
  · rcases hw' b z with q | q
    · have := S.wdom b q
      intro r
      cases e : H b with
      | none => exact this e
      | some o => rw [s b o e] at r; cases r
    · exact q.2
  · rcases (hm' a z).2 with q | q
    · exact S.lck i t d a e n h q
    · obtain ⟨b, h1, _, h3, _⟩ := S.own i t d e (by rcases n with n | n <;> (rw [n]; decide))
      rw [h] at h1
      cases h1
      obtain ⟨o, ho⟩ := h3.there
      rw [q.2] at ho; cases ho
  · obtain ⟨h1, h2, h3, h4⟩ := S.res b hb
    exact ⟨hw b h1, fun z => (hm' b z).2.elim h2 fun q => S.wdom b h1 q.2, h3, h4⟩
theorem SR.alloc (S : SR K C Z m σ H) {p : Addr} {o : HO} (h : H p = none) : SR K C Z m σ (upd H p o) :=
  S.grow (same_new h) (fun _ z => z) (fun _ z => .inl z) (fun _ z => z) fun b z => ⟨S.mw b z, .inl z⟩
theorem SR.fresh0 (S : SR K C Z m σ H) {p : Addr} (h : H p = none) : ¬ Z.W p := fun z => S.wdom p z h
theorem SR.new0 (S : SR K C Z m σ H) {p : Addr} (h : H p = none) : C.H0 p = none := by
  cases e : C.H0 p with
  | none => rfl
  | some o => 
    by_cases n : C.R p
    · exact absurd h (S.wdom p (S.base p (S.r0 p n)))
    · rw [S.keep p o e n] at h; cases h
abbrev Zn.add (Z : Zn) (p : Addr) : Zn := ⟨fun b => b = p ∨ Z.M b, fun b => b = p ∨ Z.W b⟩
/-- p, which is new, is owned -/
theorem SR.take (S : SR K C Z m σ H) {p : Addr} (s : Same H H') (h : H p = none) (h' : H' p ≠ none) : SR K C (Z.add p) m σ H' := by
  have h0 := S.new0 h
  refine S.grow s (fun _ z => .inr z) (fun b z => ?_) (fun _ z => .inr z) fun b z => ?_
  · rcases z with z | z
    · exact .inr ⟨by rw [z]; exact h, by rw [z]; exact h'⟩
    · exact .inl z
  · rcases z with z | z
    · exact ⟨.inl z, .inr (by rw [z]; exact ⟨h0, h⟩)⟩
    · exact ⟨.inr (S.mw b z), .inl z⟩
theorem SR.more (S : SR K C Z m σ H) (s : Same H H') : SR K C Z m σ H' :=
  S.grow s (fun _ z => z) (fun _ z => .inl z) (fun _ z => z) fun b z => ⟨S.mw b z, .inl z⟩
theorem SR.none_out (S : SR K C Z m σ H) {p : Addr} (h : H p = none) : ¬ Z.W p := fun z => S.wdom p z h
/-- what stands at a slot -/
theorem SR.slot (S : SR K C Z m σ H) (e : m[i]? = some (some (t, d))) : ∃ v, σ[i]? = some (some v) ∧ ((t = .shr ∧ Rep K H Z.W v d) ∨ (t ≠ .shr ∧ ∃ a, v = .ref a ∧ Z.W a ∧ Own K H Z.W a d ∧ (t = .own ∨ t = .byr → Z.M a) ∧ (t = .own ∨ t = .lkO → C.H0 a = none) ∧ (t = .byr ∨ t = .lkB → C.R a))) := by
  by_cases h : t = .shr
  · subst h
    obtain ⟨v, h1, h2⟩ := S.shr i d e
    exact ⟨v, h1, .inl ⟨rfl, h2⟩⟩
  · obtain ⟨a, h1, h2⟩ := S.own i t d e h
    exact ⟨_, h1, .inr ⟨h, a, rfl, h2⟩⟩
end
end VL

set_option Elab.async false
set_option linter.all false
set_option maxRecDepth 100000
set_option autoImplicit false
/-! The value layer, part 2: readings of expressions by functions on data. -/
namespace VL
open PySem PySem.Spec L2

/-- what an expression hands over: data, the name at a slot (a list that may be written), a new object -/
inductive P where
  | val (d : D) | bor (i : Nat) | fresh (d : D)
abbrev EF := MS → Option (P × MS)
abbrev TF := MS → Option (Bool × MS)
abbrev AF := MS → Option (List P × MS)
@[simp] def rd : P → MS → Option D
  | .val d, _ => some d
  | .fresh d, _ => some d
  | .bor i, m => match sl m i with
    | some (_, d) => some d
    | none => none
@[simp] def rds : List P → MS → Option (List D)
  | [], _ => some []
  | p :: ps, m => match rd p m, rds ps m with
    | some d, some ds => some (d :: ds)
    | _, _ => none
/-- the value may be kept by others from now on -/
@[simp] def force : P → MS → Option (D × MS)
  | .val d, m => some (d, m)
  | .fresh d, m => some (d, m)
  | .bor i, m => match sl m i with
    | some (.shr, d) => some (d, m)
    | some (.own, d) => some (d, m.set i (some (.shr, d)))
    | _ => none
@[simp] def forces : List P → MS → Option (List D × MS)
  | [], m => some ([], m)
  | p :: ps, m => match force p m with
    | some (d, m1) => match forces ps m1 with
      | some (ds, m2) => some (d :: ds, m2)
      | none => none
    | none => none

section
variable (K : PySem.W.Frag)
/-- .. as it stays while other things are evaluated -/
def RP (H : Hp) (Z : Zn) (σ : L2.St) (v : V) : P → Prop
  | .val d => Rep K H Z.W v d
  | .fresh d => Rep K H Z.W v d
  | .bor i => σ[i]? = some (some v)
/-- .. at once -/
def RP1 (C : Ct) (Z : Zn) (m : MS) (σ : L2.St) (Hs H : Hp) (v : V) : P → Prop
  | .val d => Rep K H Z.W v d
  | .fresh d => ∃ a, v = .ref a ∧ ¬ Z.W a ∧ Hs a = none ∧ C.H0 a = none ∧ SR K C (Z.add a) m σ H ∧ Own K H (Z.add a).W a d
  | .bor i => σ[i]? = some (some v)
abbrev RPs (H : Hp) (Z : Zn) (σ : L2.St) : List V → List P → Prop := Paired (RP K H Z σ)

def tE (f : EF) : TE := fun σ H Q => ∃ C Z m p m', SR K C Z m σ H ∧ f m = some (p, m') ∧ ∀ v H' Z', Ev Z H Z' H' → SR K C Z' m' σ H' → RP1 K C Z' m' σ H H' v p → Q v H'
def tT (f : TF) : TT := fun σ H Q => ∃ C Z m b m', SR K C Z m σ H ∧ f m = some (b, m') ∧ ∀ H' Z', Ev Z H Z' H' → SR K C Z' m' σ H' → Q b H'
def tA (f : AF) : TA := fun σ H Q => ∃ C Z m ps m', SR K C Z m σ H ∧ f m = some (ps, m') ∧ ∀ vs H' Z', Ev Z H Z' H' → SR K C Z' m' σ H' → RPs K H' Z' σ vs ps → Q vs H'
end
abbrev ME (X : Cx) (e : Expr) (f : EF) : Prop := PE X e (tE X.K f)
abbrev MT (X : Cx) (e : Expr) (f : TF) : Prop := PT X e (tT X.K f)
abbrev MA (X : Cx) (es : List Expr) (f : AF) : Prop := PA X es (tA X.K f)

theorem _root_.L2.PE.weak {X : Cx} {e : Expr} {t t' : TE} (h : PE X e t) (i : ∀ σ H Q, t' σ H Q → t σ H Q) : PE X e t' := ⟨fun pins s σ H Q I q => h.run pins s σ H Q I (i _ _ _ q)⟩
theorem _root_.L2.PT.weak {X : Cx} {e : Expr} {t t' : TT} (h : PT X e t) (i : ∀ σ H Q, t' σ H Q → t σ H Q) : PT X e t' := ⟨fun pins s σ H Q I q => h.run pins s σ H Q I (i _ _ _ q)⟩
theorem _root_.L2.PA.weak {X : Cx} {e : List Expr} {t t' : TA} (h : PA X e t) (i : ∀ σ H Q, t' σ H Q → t σ H Q) : PA X e t' := ⟨fun pos pins s σ H Q I q => h.run pos pins s σ H Q I (i _ _ _ q)⟩

section
variable {K : PySem.W.Frag} {C : Ct} {Z Z' Z1 Z2 : Zn} {m m' m1 m2 : MS} {σ : L2.St} {H H' H1 H2 : Hp} {v : V} {p q : P} {d : D} {a : Addr} {i : Nat} {t : Tag}

theorem RP.ks (k : Ks H Z.W H' Z'.W) (r : RP K H Z σ v p) : RP K H' Z' σ v p := by
  cases p with
  | val d => exact Rep.ks k r
  | fresh d => exact Rep.ks k r
  | bor i => exact r
theorem RPs.ks (k : Ks H Z.W H' Z'.W) : ∀ {vs : List V} {ps : List P}, RPs K H Z σ vs ps → RPs K H' Z' σ vs ps
  | _, _, .nil => .nil
  | _, _, .cons r t => .cons (RP.ks k r) (RPs.ks k t)
theorem RP1.rp {Hs : Hp} (r : RP1 K C Z m σ Hs H v p) : RP K H Z σ v p := by
  cases p with
  | val d => exact r
  | bor i => exact r
  | fresh d =>
    obtain ⟨a, rfl, n, _, _, _, o⟩ := r
    exact o.rep (fun b z => .inr z) n
theorem RP1.back {Hs Ha : Hp} {Za Zb : Zn} (E : Ev Za Ha Zb Hs) (r : RP1 K C Z m σ Hs H v p) : RP1 K C Z m σ Ha H v p := by
  cases p with
  | val d => exact r
  | bor i => exact r
  | fresh d =>
    obtain ⟨a, h1, h2, h3, h4⟩ := r
    refine ⟨a, h1, h2, ?_, h4⟩
    cases e : Ha a with
    | none => rfl
    | some o => exact absurd h3 (E.d a (by rw [e]; simp))
/-- what may be read as d -/
def RdV (K : PySem.W.Frag) (H : Hp) (W : AS) (v : V) (d : D) : Prop := Rep K H W v d ∨ ∃ a, v = .ref a ∧ W a ∧ Own K H W a d
theorem rd_bor {e : Option D} (h : rd (.bor i) m = e) : (match sl m i with
    | some (_, d) => some d
    | none => none) = e := h
theorem SR.rd (S : SR K C Z m σ H) (r : RP K H Z σ v p) (e : VL.rd p m = some d) : RdV K H Z.W v d := by
  cases p with
  | val d' => cases e; exact .inl r
  | fresh d' => cases e; exact .inl r
  | bor i =>
    have e := rd_bor e
    split at e
    · rename_i t d' em
      cases e
      obtain ⟨u, h1, h2⟩ := S.slot (sl_get em)
      have e' : u = v := by
        have r' : σ[i]? = some (some v) := r
        rw [h1] at r'
        exact Option.some.inj (Option.some.inj r')
      subst e'
      rcases h2 with ⟨_, h⟩ | ⟨_, a, rfl, hw, ho, _⟩
      · exact .inl h
      · exact .inr ⟨a, rfl, hw, ho⟩
    · cases e
abbrev RdVs (K : PySem.W.Frag) (H : Hp) (W : AS) : List V → List D → Prop := Paired (RdV K H W)
theorem SR.rds (S : SR K C Z m σ H) : ∀ {vs : List V} {ps : List P} {ds : List D}, RPs K H Z σ vs ps → VL.rds ps m = some ds → RdVs K H Z.W vs ds
  | _, _, ds, .nil, e => by
    have e' : some [] = some ds := e
    cases e'; exact .nil
  | _, _, ds, .cons (a := v) (b := p) r t, e => by
    unfold VL.rds at e
    split at e
    · rename_i d ds' e1 e2
      cases e
      exact .cons (S.rd r e1) (S.rds t e2)
    · cases e

/-! what a value that may be read is -/
theorem RdV.int {x : Int} {W : AS} (r : RdV K H W v (.int x)) : v = .int x := by
  rcases r with r | ⟨a, _, _, o⟩
  · cases r; rfl
  · exact o.elim
theorem RdV.bl {x : Bool} {W : AS} (r : RdV K H W v (.bl x)) : v = .bl x := by
  rcases r with r | ⟨a, _, _, o⟩
  · cases r; rfl
  · exact o.elim
theorem RdV.non {W : AS} (r : RdV K H W v .non) : v = .non := by
  rcases r with r | ⟨a, _, _, o⟩
  · cases r; rfl
  · exact o.elim
theorem RdV.str {x : Str} {W : AS} (r : RdV K H W v (.str x)) : v = .str x := by
  rcases r with r | ⟨a, _, _, o⟩
  · cases r; rfl
  · exact o.elim
theorem RdV.tup {ds : List D} {W : AS} (r : RdV K H W v (.tup ds)) : ∃ a vs, v = .ref a ∧ TupAt H a vs ∧ Reps K H W vs ds := by
  rcases r with r | ⟨a, _, _, o⟩
  · cases r with
    | tup n h r => exact ⟨_, _, rfl, h, r⟩
  · exact o.elim
theorem RdV.lst {ds : List D} {W : AS} (r : RdV K H W v (.lst ds)) : ∃ a vs, v = .ref a ∧ H a = some (.lst vs) ∧ Reps K H W vs ds := by
  rcases r with r | ⟨a, e, _, o⟩
  · cases r with
    | lst n h r => exact ⟨_, _, rfl, h, r⟩
  · obtain ⟨vs, h, r⟩ := o
    exact ⟨a, vs, e, h, r⟩
theorem RdV.dct {ks : List Key} {ds : List D} {W : AS} (r : RdV K H W v (.dct ks ds)) : ∃ a vs, v = .ref a ∧ H a = some (.dK (ks.zip vs)) ∧ ks.length = vs.length ∧ Reps K H W vs ds := by
  rcases r with r | ⟨a, e, _, o⟩
  · cases r with
    | dct n h l r => exact ⟨_, _, rfl, h, l, r⟩
  · obtain ⟨vs, h, l, r⟩ := o
    exact ⟨a, vs, e, h, l, r⟩
theorem RdV.frz {ds : List D} {W : AS} (r : RdV K H W v (.frz ds)) : ∃ a vs, v = .ref a ∧ SqL K H a vs ∧ Reps K H W vs ds := by
  rcases r with r | ⟨a, e, _, o⟩
  · cases r with
    | frz h r => exact ⟨_, _, rfl, h.seq, r⟩
  · exact o.elim
end

/-! ### names and constants -/
def mC (d : D) : EF := fun m => some (.val d, m)
def mV (i : Nat) : EF := fun m => match sl m i with
  | some (.shr, d) => some (.val d, m)
  | some (_, _) => some (.bor i, m)
  | none => none
section
variable {X : Cx}
theorem me_c {e : Expr} {v : V} {d : D} (h : PE X e (tC v)) (r : ∀ K H W, Rep K H W v d) : ME X e (mC d) := h.weak fun σ H Q ⟨C, Z, m, p, m', S, e, q⟩ => by
  cases e
  exact q _ _ _ .refl S (r _ _ _)
theorem me_int {i j pos} : ME X (.Constant (.int i) j pos) (mC (.int i)) := me_c pe_int fun _ _ _ => .int i
theorem me_bl {b j pos} : ME X (.Constant (.bool b) j pos) (mC (.bl b)) := me_c pe_bl fun _ _ _ => .bl b
theorem me_non {j pos} : ME X (.Constant .none j pos) (mC .non) := me_c pe_non fun _ _ _ => .non
theorem me_str {x j pos} : ME X (.Constant (.str x) j pos) (mC (.str x)) := me_c pe_str fun _ _ _ => .str x
theorem me_v {e : Expr} {i : Nat} (h : PE X e (tVar i)) : ME X e (mV i) := h.weak fun σ H Q ⟨C, Z, m, p, m', S, e, q⟩ => by
  unfold mV at e
  split at e
  · rename_i d em
    cases e
    obtain ⟨v, h1, h2⟩ := S.shr i d (sl_get em)
    exact ⟨v, h1, q _ _ _ .refl S h2⟩
  · rename_i t d nt em
    cases e
    obtain ⟨v, h1, h2⟩ := S.slot (sl_get em)
    exact ⟨v, h1, q _ _ _ .refl S h1⟩
  · cases e
end

/-! ### two operands -/
section
variable {K : PySem.W.Frag} {C : Ct} {Z Z' Z1 Z2 : Zn} {m m' m1 m2 : MS} {σ : L2.St} {H H' H1 H2 : Hp} {v : V} {p q : P} {d : D} {a : Addr} {i : Nat} {t : Tag}
theorem tE_one {fa : EF} {R : V → Hp → Prop} (S : SR K C Z m σ H) (ea : fa m = some (p, m1))
    (k : ∀ x H1 Z1, Ev Z H Z1 H1 → SR K C Z1 m1 σ H1 → RP1 K C Z1 m1 σ H H1 x p → R x H1) : tE K fa σ H R := ⟨C, Z, m, p, m1, S, ea, k⟩
theorem tE_two {fa fb : EF} {R : V → V → Hp → Prop} (S : SR K C Z m σ H) (ea : fa m = some (p, m1)) (eb : fb m1 = some (q, m2))
    (k : ∀ x y H2 Z2, Ev Z H Z2 H2 → SR K C Z2 m2 σ H2 → RP K H2 Z2 σ x p → RP1 K C Z2 m2 σ H H2 y q → R x y H2) : tE K fa σ H fun x H1 => tE K fb σ H1 fun y H2 => R x y H2 :=
  tE_one S ea fun x H1 Z1 E1 S1 r1 => tE_one S1 eb fun y H2 Z2 E2 S2 r2 => k x y H2 Z2 (E1.trans E2) S2 (r1.rp.ks (S1.ks E2)) (r2.back E1)
end

/-- what an operation on values hands over: nothing that stood is touched -/
def Out (K : PySem.W.Frag) (H : Hp) (W : AS) (v : V) (H' : Hp) : P → Prop
  | .val d => Same H H' ∧ Rep K H' W v d
  | .fresh d => Same H H' ∧ ∃ a, v = .ref a ∧ H a = none ∧ Own K H' (fun b => b = a ∨ W b) a d
  | .bor _ => False
theorem Out.fin {K : PySem.W.Frag} {C : Ct} {Z : Zn} {m : MS} {σ : L2.St} {H H' : Hp} {v : V} {p : P} (S : SR K C Z m σ H) (o : Out K H Z.W v H' p) : Ev Z H Z H' ∧ SR K C Z m σ H' ∧ RP1 K C Z m σ H H' v p := by
  cases p with
  | val d => exact ⟨.same o.1, S.more o.1, o.2⟩
  | bor i => exact o.elim
  | fresh d =>
    obtain ⟨s, a, rfl, n, ow⟩ := o
    refine ⟨.same s, S.more s, a, rfl, S.none_out n, n, S.new0 n, S.take s n ?_, ow⟩
    obtain ⟨o, e⟩ := ow.there
    rw [e]; simp

/-- an operation of two operands on data -/
def r2D (K : PySem.W.Frag) (g : D → D → Option P) : R2 := fun x y H Q => ∃ (W : AS) (dx dy : D) (r : P), (∀ b, W b → H b ≠ none) ∧ RdV K H W x dx ∧ RdV K H W y dy ∧ g dx dy = some r ∧ ∀ v H', Out K H W v H' r → Q v H'
def r1D (K : PySem.W.Frag) (g : D → Option P) : V → Hp → VK → Prop := fun x H Q => ∃ (W : AS) (dx : D) (r : P), (∀ b, W b → H b ≠ none) ∧ RdV K H W x dx ∧ g dx = some r ∧ ∀ v H', Out K H W v H' r → Q v H'
def rnD (K : PySem.W.Frag) (g : List D → Option P) : List V → Hp → VK → Prop := fun xs H Q => ∃ (W : AS) (ds : List D) (r : P), (∀ b, W b → H b ≠ none) ∧ RdVs K H W xs ds ∧ g ds = some r ∧ ∀ v H', Out K H W v H' r → Q v H'
def m2 (g : D → D → Option P) (fa fb : EF) : EF := fun m =>
  match fa m with
  | some (p, m1) => match fb m1 with
    | some (q, m2) => match rd p m2, rd q m2 with
      | some x, some y => match g x y with
        | some r => some (r, m2)
        | none => none
      | _, _ => none
    | none => none
  | none => none
def m1 (g : D → Option P) (fa : EF) : EF := fun m =>
  match fa m with
  | some (p, m1) => match rd p m1 with
    | some x => match g x with
      | some r => some (r, m1)
      | none => none
    | none => none
  | none => none
def mn (g : List D → Option P) (fa : AF) : EF := fun m =>
  match fa m with
  | some (ps, m1) => match rds ps m1 with
    | some xs => match g xs with
      | some r => some (r, m1)
      | none => none
    | none => none
  | none => none
section
variable {K : PySem.W.Frag} {fa fb : EF} {fn : AF} {σ : L2.St} {H : Hp} {Q : VK}
theorem tE_m2 {g : D → D → Option P} (h : tE K (m2 g fa fb) σ H Q) : tOp (r2D K g) (tE K fa) (tE K fb) σ H Q := by
  obtain ⟨C, Z, m, p, m', S, e, k⟩ := h
  unfold m2 at e
  split at e
  · rename_i p1 n1 e1
    split at e
    · rename_i q n2 e2
      split at e
      · rename_i x y ex ey
        split at e
        · rename_i r er
          cases e
          refine tE_two S e1 e2 fun u v H2 Z2 E2 S2 r1 r2 => ⟨Z2.W, x, y, p, S2.wdom, S2.rd r1 ex, S2.rd r2.rp ey, er, fun w H' o => ?_⟩
          obtain ⟨E3, S3, r3⟩ := o.fin S2
          exact k w H' Z2 (E2.trans E3) S3 (r3.back E2)
        · cases e
      · cases e
    · cases e
  · cases e
theorem tE_m1 {g : D → Option P} (h : tE K (m1 g fa) σ H Q) : tUn (r1D K g) (tE K fa) σ H Q := by
  obtain ⟨C, Z, m, p, m', S, e, k⟩ := h
  unfold m1 at e
  split at e
  · rename_i p1 n1 e1
    split at e
    · rename_i x ex
      split at e
      · rename_i r er
        cases e
        refine tE_one S e1 fun u H2 Z2 E2 S2 r1 => ⟨Z2.W, x, p, S2.wdom, S2.rd r1.rp ex, er, fun w H' o => ?_⟩
        obtain ⟨E3, S3, r3⟩ := o.fin S2
        exact k w H' Z2 (E2.trans E3) S3 (r3.back E2)
      · cases e
    · cases e
  · cases e
theorem tE_mn {g : List D → Option P} (h : tE K (mn g fn) σ H Q) : tCB (rnD K g) (tA K fn) σ H Q := by
  obtain ⟨C, Z, m, p, m', S, e, k⟩ := h
  unfold mn at e
  split at e
  · rename_i p1 n1 e1
    split at e
    · rename_i x ex
      split at e
      · rename_i r er
        cases e
        refine ⟨C, Z, m, p1, _, S, e1, fun u H2 Z2 E2 S2 r1 => ⟨Z2.W, x, p, S2.wdom, S2.rds r1 ex, er, fun w H' o => ?_⟩⟩
        obtain ⟨E3, S3, r3⟩ := o.fin S2
        exact k w H' Z2 (E2.trans E3) S3 (r3.back E2)
      · cases e
    · cases e
  · cases e
end

/-! ### argument lists -/
def aN : AF := fun m => some ([], m)
def aC (f : EF) (fs : AF) : AF := fun m =>
  match f m with
  | some (p, m1) => match fs m1 with
    | some (ps, m2) => some (p :: ps, m2)
    | none => none
  | none => none
section
variable {X : Cx}
theorem ma_nil : MA X [] aN := pa_nil.weak fun σ H Q ⟨C, Z, m, p, m', S, e, q⟩ => by
  cases e
  exact q _ _ _ .refl S .nil
theorem ma_cons {e : Expr} {es : List Expr} {f : EF} {fs : AF} (h : ME X e f) (hs : MA X es fs) (hst : starEach (e :: es) X.env = (false, eval e X.env) :: starEach es X.env := by rfl) : MA X (e :: es) (aC f fs) :=
  (pa_cons h hs hst).weak fun σ H Q ⟨C, Z, m, ps, m', S, e, q⟩ => by
    unfold aC at e
    split at e
    · rename_i p1 n1 e1
      split at e
      · rename_i ps n2 e2
        cases e
        exact tE_one S e1 fun u H1 Z1 E1 S1 r1 => ⟨C, Z1, _, ps, _, S1, e2, fun vs H2 Z2 E2 S2 r2 => q _ _ _ (E1.trans E2) S2 (.cons (r1.rp.ks (S1.ks E2)) r2)⟩
      · cases e
    · cases e
end
end VL

set_option Elab.async false
set_option linter.all false
set_option maxRecDepth 100000
set_option autoImplicit false
/-! The value layer, part 3: == and < of data. -/
namespace VL
open PySem PySem.Spec L2

mutual
/-- x == y -/
@[simp] def dEq : D → D → Bool
  | .non, .non => true
  | .bl a, .bl b => a == b
  | .bl a, .int j => (if a then 1 else 0) == j
  | .int i, .bl b => i == (if b then 1 else 0)
  | .int i, .int j => i == j
  | .str x, .str y => x == y
  | .lst xs, .lst ys => dEqs xs ys
  | .tup xs, .tup ys => dEqs xs ys
  | _, _ => false
@[simp] def dEqs : List D → List D → Bool
  | [], [] => true
  | x :: xs, y :: ys => dEq x y && dEqs xs ys
  | _, _ => false
end
mutual
/-- lists, tuples, ints, bools, texts, None, at most n deep -/
@[simp] def dOk : D → Nat → Bool
  | .lst xs, n + 1 => dOks xs n
  | .tup xs, n + 1 => dOks xs n
  | .lst _, 0 => false
  | .tup _, 0 => false
  | .dct _ _, _ => false
  | .frz _, _ => false
  | .ty _, _ => false
  | _, _ => true
@[simp] def dOks : List D → Nat → Bool
  | [], _ => true
  | x :: xs, n => dOk x n && dOks xs n
end
mutual
theorem dEq_refl : ∀ (d : D) (n : Nat), dOk d n = true → dEq d d = true
  | .non, _, _ => by rw [dEq]
  | .bl _, _, _ => by rw [dEq]; exact beq_self_eq_true _
  | .int _, _, _ => by rw [dEq]; exact beq_self_eq_true _
  | .str _, _, _ => by rw [dEq]; exact beq_self_eq_true _
  | .lst xs, n + 1, h => by rw [dEq]; rw [dOk] at h; exact dEqs_refl xs n h
  | .tup xs, n + 1, h => by rw [dEq]; rw [dOk] at h; exact dEqs_refl xs n h
  | .lst _, 0, h => by rw [dOk] at h; cases h
  | .tup _, 0, h => by rw [dOk] at h; cases h
  | .dct _ _, _, h => by rw [dOk] at h; cases h
  | .frz _, _, h => by rw [dOk] at h; cases h
  | .ty _, _, h => by rw [dOk] at h; cases h
theorem dEqs_refl : ∀ (ds : List D) (n : Nat), dOks ds n = true → dEqs ds ds = true
  | [], _, _ => by rw [dEqs]
  | x :: xs, n, h => by
    rw [dOks, Bool.and_eq_true] at h
    rw [dEqs, dEq_refl x n h.1, dEqs_refl xs n h.2]; rfl
end

/-! ### values as they lie in the heap -/
mutual
inductive VD (h : Heap) : Value → D → Prop
  | non : VD h .none .non
  | bl (b : Bool) : VD h (.bool b) (.bl b)
  | int (i : Int) (t : Tok) : VD h (.int i t) (.int i)
  | str (x : Str) (t : Tok) : VD h (.str x t) (.str x)
  | tup {a : Addr} {us : List Value} {ds : List D} : h.IsTuple a us.toArray → VDs h us ds → VD h (.ref a) (.tup ds)
  | lst {a : Addr} {us : List Value} {ds : List D} : h.IsList a us.toArray → VDs h us ds → VD h (.ref a) (.lst ds)
inductive VDs (h : Heap) : List Value → List D → Prop
  | nil : VDs h [] []
  | cons {u : Value} {d : D} {us : List Value} {ds : List D} : VD h u d → VDs h us ds → VDs h (u :: us) (d :: ds)
end
section
variable {h : Heap}
theorem VDs.length : ∀ {us : List Value} {ds : List D}, VDs h us ds → us.length = ds.length
  | _, _, .nil => rfl
  | _, _, .cons _ t => congrArg (· + 1) (VDs.length t)
theorem VDs.get : ∀ {us : List Value} {ds : List D} {i : Nat} {u : Value}, VDs h us ds → us[i]? = some u → ∃ d, ds[i]? = some d ∧ VD h u d
  | _, _, _, _, .nil, e => by simp at e
  | _, _, 0, _, .cons r _, e => by simp at e; subst e; exact ⟨_, rfl, r⟩
  | _, _, i + 1, u, .cons _ t, e => by
    obtain ⟨d, h1, h2⟩ := VDs.get (i := i) (u := u) t (by simpa using e)
    exact ⟨d, by simpa using h1, h2⟩
theorem tup_inj {a : Addr} {us ws : List Value} (x : h.IsTuple a us.toArray) (y : h.IsTuple a ws.toArray) : us = ws := by
  obtain ⟨o, ho, hc, n, hd⟩ := x
  obtain ⟨o', ho', hc', n', hd'⟩ := y
  rw [ho] at ho'; cases ho'
  rw [hd] at hd'
  injection hd' with e _
  simpa using congrArg Array.toList e
theorem lst_inj {a : Addr} {us ws : List Value} (x : h.IsList a us.toArray) (y : h.IsList a ws.toArray) : us = ws := by
  obtain ⟨o, ho, hc, n, hd⟩ := x
  obtain ⟨o', ho', hc', n', hd'⟩ := y
  rw [ho] at ho'; cases ho'
  rw [hd] at hd'
  injection hd' with e _
  simpa using congrArg Array.toList e
theorem lst_tup {a : Addr} {us ws : Array Value} (x : h.IsList a us) (y : h.IsTuple a ws) : False := by
  obtain ⟨o, ho, hc, _⟩ := x
  obtain ⟨o', ho', hc', _⟩ := y
  rw [ho] at ho'; cases ho'
  rw [hc] at hc'
  exact absurd hc' (by simp)
mutual
theorem VD.inj : ∀ {u : Value} {d e : D}, VD h u d → VD h u e → d = e
  | _, _, _, .non, .non => rfl
  | _, _, _, .bl _, .bl _ => rfl
  | _, _, _, .int _ _, .int _ _ => rfl
  | _, _, _, .str _ _, .str _ _ => rfl
  | _, _, _, .tup x r, .tup y q => by
    cases tup_inj x y
    rw [VDs.inj r q]
  | _, _, _, .lst x r, .lst y q => by
    cases lst_inj x y
    rw [VDs.inj r q]
  | _, _, _, .tup x _, .lst y _ => (lst_tup y x).elim
  | _, _, _, .lst x _, .tup y _ => (lst_tup x y).elim
theorem VDs.inj : ∀ {us : List Value} {ds es : List D}, VDs h us ds → VDs h us es → ds = es
  | _, _, _, .nil, .nil => rfl
  | _, _, _, .cons r t, .cons q u => by rw [VD.inj r q, VDs.inj t u]
end
end

section
variable {X : Cx} {pins : List (Addr × Obj)} {σ : L2.St} {H : Hp} {s : Shared} {W : AS}
mutual
theorem VD.of (I : Inv X pins σ H s) : ∀ {v : V} {d : D} {u : Value} {n : Nat}, Rep X.K H W v d → RelV v u → dOk d n = true → VD s.heap u d
  | _, _, u, _, .non, r, _ => by cases r; exact .non
  | _, _, u, _, .bl b, r, _ => by cases r; exact .bl b
  | _, _, u, _, .int i, r, _ => by obtain ⟨t, rfl⟩ := r; exact .int i t
  | _, _, u, _, .str x, r, _ => by obtain ⟨t, rfl⟩ := r; exact .str x t
  | _, _, u, n, .tup nw h rs, r, k => by
    cases r
    cases n with
    | zero => rw [dOk] at k; cases k
    | succ n =>
      rw [dOk] at k
      obtain ⟨its, rv, ht, _⟩ := I.tuple (h.seq)
      exact .tup ht (VDs.of I rs rv k)
  | _, _, u, n, .lst nw h rs, r, k => by
    cases r
    cases n with
    | zero => rw [dOk] at k; cases k
    | succ n =>
      rw [dOk] at k
      obtain ⟨its, rv, ht, _⟩ := I.list (SqL.of h)
      exact .lst ht.isList (VDs.of I rs rv k)
  | _, _, _, _, .dct _ _ _ _, _, k => by rw [dOk] at k; cases k
  | _, _, _, _, .frz _ _, _, k => by rw [dOk] at k; cases k
  | _, _, _, _, .ty _, _, k => by rw [dOk] at k; cases k
theorem VDs.of (I : Inv X pins σ H s) : ∀ {vs : List V} {ds : List D} {us : List Value} {n : Nat}, Reps X.K H W vs ds → Vals vs us → dOks ds n = true → VDs s.heap us ds
  | _, _, _, _, .nil, .nil, _ => .nil
  | _, _, _, n, .cons r t, .cons q w, k => by
    rw [dOks, Bool.and_eq_true] at k
    exact .cons (VD.of I r q k.1) (VDs.of I t w k.2)
end
theorem VD.ofRd (I : Inv X pins σ H s) {v : V} {d : D} {u : Value} {n : Nat} (r : RdV X.K H W v d) (ru : RelV v u) (k : dOk d n = true) : VD s.heap u d := by
  rcases r with r | ⟨a, rfl, _, o⟩
  · exact VD.of I r ru k
  · cases ru
    cases d with
    | lst ds =>
      obtain ⟨vs, h, rs⟩ := o
      cases n with
      | zero => rw [dOk] at k; cases k
      | succ n =>
        rw [dOk] at k
        obtain ⟨its, rv, ht, _⟩ := I.list (SqL.of h)
        exact .lst ht.isList (VDs.of I rs rv k)
    | dct ks ds => rw [dOk] at k; cases k
    | _ => exact o.elim
end

/-! ### == -/
def pairE (ds es : List D) (j : Nat) : Bool := match ds[j]?, es[j]? with
  | some d, some e => dEq d e
  | _, _ => true
theorem pairE_cons (d e : D) (ds es : List D) (j : Nat) : pairE (d :: ds) (e :: es) (j + 1) = pairE ds es j := by simp [pairE]
theorem dEqs_range : ∀ ds es : List D, ((List.range (min ds.length es.length)).all (pairE ds es) && ds.length == es.length) = dEqs ds es
  | [], [] => by simp [dEqs]
  | [], _ :: _ => by simp [dEqs]
  | _ :: _, [] => by simp [dEqs]
  | d :: ds, e :: es => by
    have ih := dEqs_range ds es
    rw [dEqs, List.length_cons, List.length_cons, Nat.succ_min_succ, List.range_succ_eq_map, List.all_cons, List.all_map]
    have e1 : (pairE (d :: ds) (e :: es) ∘ Nat.succ) = pairE ds es := by
      funext j
      exact pairE_cons d e ds es j
    have e0 : pairE (d :: ds) (e :: es) 0 = dEq d e := by simp [pairE]
    have e2 : (ds.length + 1 == es.length + 1) = (ds.length == es.length) := by
      by_cases q : ds.length = es.length
      · simp [q]
      · simp [q]
    rw [e1, e0, e2, Bool.and_assoc, ih]
section
variable {s : Shared}
open PySem.SeqAt
theorem units_in1 (A : Around) : A.in1.units = A.units + 1 := rfl
theorem eqAt_D : ∀ (n : Nat) (A : Around) {u v : Value} {d e : D}, dOk d n = true → dOk e n = true → VD s.heap u d → VD s.heap v e → A.units + n < cLine → EqAt A s u v (dEq d e) := by
  intro n
  induction n with
  | zero =>
    intro A u v d e kd ke x y hu
    cases x with
    | non => cases y with
      | non => exact EqAt.same _
      | bl b => exact EqAt.none_bool b
      | int i t => exact EqAt.none_int i t
      | str z t => exact EqAt.none_str z t
      | tup _ _ => rw [dOk] at ke; cases ke
      | lst _ _ => rw [dOk] at ke; cases ke
    | bl a => cases y with
      | non => exact EqAt.bool_none a
      | bl b => rw [dEq]; exact EqAt.bool_bool a b
      | int i t => rw [dEq]; exact EqAt.bool_int a i t
      | str z t => exact EqAt.bool_str a z t
      | tup _ _ => rw [dOk] at ke; cases ke
      | lst _ _ => rw [dOk] at ke; cases ke
    | int a t0 => cases y with
      | non => exact EqAt.int_none a t0
      | bl b => rw [dEq]; exact EqAt.int_bool a t0 b
      | int i t => rw [dEq]; exact EqAt.int_int a t0 i t
      | str z t => exact EqAt.int_str a t0 z t
      | tup _ _ => rw [dOk] at ke; cases ke
      | lst _ _ => rw [dOk] at ke; cases ke
    | str a t0 => cases y with
      | non => exact EqAt.str_none a t0
      | bl b => exact EqAt.str_bool a t0 b
      | int i t => exact EqAt.str_int a t0 i t
      | str z t => rw [dEq]; exact EqAt.str_str a t0 z t
      | tup _ _ => rw [dOk] at ke; cases ke
      | lst _ _ => rw [dOk] at ke; cases ke
    | tup _ _ => rw [dOk] at kd; cases kd
    | lst _ _ => rw [dOk] at kd; cases kd
  | succ n ih =>
    intro A u v d e kd ke x y hu
    have hu0 : A.units < cLine := by omega
    have pairs : ∀ {us ws : List Value} {ds es : List D}, VDs s.heap us ds → VDs s.heap ws es → dOks ds n = true → dOks es n = true →
        ∀ j (h1 : j < us.toArray.size) (h2 : j < ws.toArray.size), EqAt A.in1 s us.toArray[j] ws.toArray[j] (pairE ds es j) := by
      intro us ws ds es p q k1 k2 j h1 h2
      have h1' : j < us.length := by simpa using h1
      have h2' : j < ws.length := by simpa using h2
      obtain ⟨d', g1, r1⟩ := p.get (i := j) (u := us[j]) (List.getElem?_eq_getElem h1')
      obtain ⟨e', g2, r2⟩ := q.get (i := j) (u := ws[j]) (List.getElem?_eq_getElem h2')
      have ep : pairE ds es j = dEq d' e' := by simp [pairE, g1, g2]
      rw [ep]
      have oks : ∀ {l : List D} {z : D}, dOks l n = true → z ∈ l → dOk z n = true := by
        intro l z
        induction l with
        | nil => intro _ m; cases m
        | cons w l ihl =>
          intro k m
          rw [dOks, Bool.and_eq_true] at k
          rcases List.mem_cons.mp m with rfl | m
          · exact k.1
          · exact ihl k.2 m
      have := ih A.in1 (oks k1 (List.mem_of_getElem? g1)) (oks k2 (List.mem_of_getElem? g2)) r1 r2 (by rw [units_in1]; omega)
      simpa using this
    cases x with
    | non => cases y with
      | non => exact EqAt.same _
      | bl b => exact EqAt.none_bool b
      | int i t => exact EqAt.none_int i t
      | str z t => exact EqAt.none_str z t
      | tup ht _ => exact EqAt.none_tuple ht hu0
      | lst ht _ => exact EqAt.none_list ht hu0
    | bl a => cases y with
      | non => exact EqAt.bool_none a
      | bl b => rw [dEq]; exact EqAt.bool_bool a b
      | int i t => rw [dEq]; exact EqAt.bool_int a i t
      | str z t => exact EqAt.bool_str a z t
      | tup ht _ => exact EqAt.bool_tuple _ ht hu0
      | lst ht _ => exact EqAt.bool_list _ ht hu0
    | int a t0 => cases y with
      | non => exact EqAt.int_none a t0
      | bl b => rw [dEq]; exact EqAt.int_bool a t0 b
      | int i t => rw [dEq]; exact EqAt.int_int a t0 i t
      | str z t => exact EqAt.int_str a t0 z t
      | tup ht _ => exact EqAt.int_tuple _ _ ht hu0
      | lst ht _ => exact EqAt.int_list _ _ ht hu0
    | str a t0 => cases y with
      | non => exact EqAt.str_none a t0
      | bl b => exact EqAt.str_bool a t0 b
      | int i t => exact EqAt.str_int a t0 i t
      | str z t => rw [dEq]; exact EqAt.str_str a t0 z t
      | tup ht _ => exact EqAt.str_tuple _ _ ht hu0
      | lst ht _ => exact EqAt.str_list _ _ ht hu0
    | tup ht rs => cases y with
      | non => exact EqAt.tuple_none ht hu0
      | bl b => exact EqAt.tuple_bool _ ht hu0
      | int i t => exact EqAt.tuple_int _ _ ht hu0
      | str z t => exact EqAt.tuple_str _ _ ht hu0
      | tup hw rw' =>
        rename_i a us ds b ws es
        by_cases hab : a = b
        · subst hab
          cases tup_inj ht hw
          cases VDs.inj rs rw'
          rw [dEq_refl _ _ kd]
          exact EqAt.same _
        · rw [dOk] at kd ke
          have q := RcAt.tuples ht hw hu0 (pairs rs rw' kd ke)
          rw [dEq, ← dEqs_range, ← rs.length, ← rw'.length]
          simp only [List.size_toArray] at q
          exact EqAt.of_refs hab q
      | lst hw _ => rw [dEq]; exact EqAt.tuple_list ht hw hu0
                    all_goals (intros; simp_all)
    | lst ht rs => cases y with
      | non => exact EqAt.list_none ht hu0
      | bl b => exact EqAt.list_bool _ ht hu0
      | int i t => exact EqAt.list_int _ _ ht hu0
      | str z t => exact EqAt.list_str _ _ ht hu0
      | tup hw _ => rw [dEq]; exact EqAt.list_tuple ht hw hu0
                    all_goals (intros; simp_all)
      | lst hw rw' =>
        rename_i a us ds b ws es
        by_cases hab : a = b
        · subst hab
          cases lst_inj ht hw
          cases VDs.inj rs rw'
          rw [dEq_refl _ _ kd]
          exact EqAt.same _
        · rw [dOk] at kd ke
          rw [dEq, ← dEqs_range, ← rs.length, ← rw'.length]
          by_cases hsz : us.length = ws.length
          · have q := RcAt.lists ht hw (by simpa using hsz) hu0 (pairs rs rw' kd ke)
            simp only [List.size_toArray] at q
            rw [← hsz, Nat.min_self, beq_self_eq_true, Bool.and_true]
            exact EqAt.of_refs hab q
          · have q := RcAt.lists_lengths ht hw (by simpa using hsz) hu0
            have e0 : (us.length == ws.length) = false := by simpa using hsz
            rw [e0, Bool.and_false]
            exact EqAt.of_refs hab q
theorem dOks_mem {n : Nat} : ∀ {l : List D} {z : D}, dOks l n = true → z ∈ l → dOk z n = true
  | w :: l, z, k, m => by
    rw [dOks, Bool.and_eq_true] at k
    rcases List.mem_cons.mp m with rfl | m
    · exact k.1
    · exact dOks_mem k.2 m
theorem pairs_D {n : Nat} {A : Around} {us ws : List Value} {ds es : List D} (hu : A.units + (n + 1) < cLine) (p : VDs s.heap us ds) (q : VDs s.heap ws es) (k1 : dOks ds n = true) (k2 : dOks es n = true) :
    ∀ j (h1 : j < us.toArray.size) (h2 : j < ws.toArray.size), EqAt A.in1 s us.toArray[j] ws.toArray[j] (pairE ds es j) := by
  intro j h1 h2
  have h1' : j < us.length := by simpa using h1
  have h2' : j < ws.length := by simpa using h2
  obtain ⟨d', g1, r1⟩ := p.get (i := j) (u := us[j]) (List.getElem?_eq_getElem h1')
  obtain ⟨e', g2, r2⟩ := q.get (i := j) (u := ws[j]) (List.getElem?_eq_getElem h2')
  have ep : pairE ds es j = dEq d' e' := by simp [pairE, g1, g2]
  rw [ep]
  have := eqAt_D n A.in1 (dOks_mem k1 (List.mem_of_getElem? g1)) (dOks_mem k2 (List.mem_of_getElem? g2)) r1 r2 (by rw [units_in1]; omega)
  simpa using this
theorem rcAt_D {n : Nat} {A : Around} {u v : Value} {d e : D} (kd : dOk d n = true) (ke : dOk e n = true) (x : VD s.heap u d) (y : VD s.heap v e) (hu : A.units + n < cLine) : RcAt A s u v (dEq d e) := by
  have hu0 : A.units < cLine := by omega
  cases x with
  | non =>
    cases y with
    | non => exact RcAt.none_none 
    | bl b => exact RcAt.none_bool b
    | int b t1 => exact RcAt.none_int b t1
    | str b t1 => exact RcAt.none_str b t1
    | tup ht _ => exact RcAt.none_tuple  ht hu0
    | lst ht _ => exact RcAt.none_list  ht hu0
  | bl a =>
    cases y with
    | non => exact RcAt.bool_none a
    | bl b => rw [dEq]; exact RcAt.bool_bool a b
    | int b t1 => rw [dEq]; exact RcAt.bool_int a b t1
    | str b t1 => exact RcAt.bool_str a b t1
    | tup ht _ => exact RcAt.bool_tuple a ht hu0
    | lst ht _ => exact RcAt.bool_list a ht hu0
  | int a t0 =>
    cases y with
    | non => exact RcAt.int_none a t0
    | bl b => rw [dEq]; exact RcAt.int_bool a t0 b
    | int b t1 => rw [dEq]; exact RcAt.int_int a t0 b t1
    | str b t1 => exact RcAt.int_str a t0 b t1
    | tup ht _ => exact RcAt.int_tuple a t0 ht hu0
    | lst ht _ => exact RcAt.int_list a t0 ht hu0
  | str a t0 =>
    cases y with
    | non => exact RcAt.str_none a t0
    | bl b => exact RcAt.str_bool a t0 b
    | int b t1 => exact RcAt.str_int a t0 b t1
    | str b t1 => rw [dEq]; exact RcAt.str_str a t0 b t1
    | tup ht _ => exact RcAt.str_tuple a t0 ht hu0
    | lst ht _ => exact RcAt.str_list a t0 ht hu0
  | tup ht rs =>
    cases y with
    | non => exact RcAt.tuple_none ht hu0
    | bl b => exact RcAt.tuple_bool b ht hu0
    | int b t1 => exact RcAt.tuple_int b t1 ht hu0
    | str b t1 => exact RcAt.tuple_str b t1 ht hu0
    | lst hw _ =>
      rw [dEq]; exact RcAt.tuple_list ht hw hu0
      all_goals (intros; simp_all)
    | @tup b ws es hw rw' =>
      cases n with
      | zero => rw [dOk] at kd; cases kd
      | succ n =>
        rw [dOk] at kd ke
        have q := RcAt.tuples ht hw hu0 (pairs_D (by omega) rs rw' kd ke)
        rw [dEq, ← dEqs_range, ← rs.length, ← rw'.length]
        simp only [List.size_toArray] at q
        exact q
  | lst ht rs =>
    cases y with
    | non => exact RcAt.list_none ht hu0
    | bl b => exact RcAt.list_bool b ht hu0
    | int b t1 => exact RcAt.list_int b t1 ht hu0
    | str b t1 => exact RcAt.list_str b t1 ht hu0
    | tup hw _ =>
      rw [dEq]; exact RcAt.list_tuple ht hw hu0
      all_goals (intros; simp_all)
    | @lst b ws es hw rw' =>
      cases n with
      | zero => rw [dOk] at kd; cases kd
      | succ n =>
        rw [dOk] at kd ke
        rw [dEq, ← dEqs_range, ← rs.length, ← rw'.length]
        rename_i us _
        by_cases hsz : us.length = ws.length
        · have q := RcAt.lists ht hw (by simpa using hsz) hu0 (pairs_D (by omega) rs rw' kd ke)
          simp only [List.size_toArray] at q
          rw [← hsz, Nat.min_self, beq_self_eq_true, Bool.and_true]
          exact q
        · have q := RcAt.lists_lengths ht hw (by simpa using hsz) hu0
          have e0 : (us.length == ws.length) = false := by simpa using hsz
          rw [e0, Bool.and_false]
          exact q
theorem rcNeAt_D {n : Nat} {A : Around} {u v : Value} {d e : D} (kd : dOk d n = true) (ke : dOk e n = true) (x : VD s.heap u d) (y : VD s.heap v e) (hu : A.units + n < cLine) : RcNeAt A s u v (!dEq d e) := by
  have hu0 : A.units < cLine := by omega
  cases x with
  | non =>
    cases y with
    | non => exact RcNeAt.none_none 
    | bl b => exact RcNeAt.none_bool b
    | int b t1 => exact RcNeAt.none_int b t1
    | str b t1 => exact RcNeAt.none_str b t1
    | tup ht _ => exact RcNeAt.none_tuple  ht hu0
    | lst ht _ => exact RcNeAt.none_list  ht hu0
  | bl a =>
    cases y with
    | non => exact RcNeAt.bool_none a
    | bl b => rw [dEq]; exact RcNeAt.bool_bool a b
    | int b t1 => rw [dEq]; exact RcNeAt.bool_int a b t1
    | str b t1 => exact RcNeAt.bool_str a b t1
    | tup ht _ => exact RcNeAt.bool_tuple a ht hu0
    | lst ht _ => exact RcNeAt.bool_list a ht hu0
  | int a t0 =>
    cases y with
    | non => exact RcNeAt.int_none a t0
    | bl b => rw [dEq]; exact RcNeAt.int_bool a t0 b
    | int b t1 => rw [dEq]; exact RcNeAt.int_int a t0 b t1
    | str b t1 => exact RcNeAt.int_str a t0 b t1
    | tup ht _ => exact RcNeAt.int_tuple a t0 ht hu0
    | lst ht _ => exact RcNeAt.int_list a t0 ht hu0
  | str a t0 =>
    cases y with
    | non => exact RcNeAt.str_none a t0
    | bl b => exact RcNeAt.str_bool a t0 b
    | int b t1 => exact RcNeAt.str_int a t0 b t1
    | str b t1 => rw [dEq]; exact RcNeAt.str_str a t0 b t1
    | tup ht _ => exact RcNeAt.str_tuple a t0 ht hu0
    | lst ht _ => exact RcNeAt.str_list a t0 ht hu0
  | tup ht rs =>
    cases y with
    | non => exact RcNeAt.tuple_none ht hu0
    | bl b => exact RcNeAt.tuple_bool b ht hu0
    | int b t1 => exact RcNeAt.tuple_int b t1 ht hu0
    | str b t1 => exact RcNeAt.tuple_str b t1 ht hu0
    | lst hw _ =>
      rw [dEq]; exact RcNeAt.tuple_list ht hw hu0
      all_goals (intros; simp_all)
    | @tup b ws es hw rw' =>
      cases n with
      | zero => rw [dOk] at kd; cases kd
      | succ n =>
        rw [dOk] at kd ke
        have q := RcNeAt.tuples ht hw hu0 (pairs_D (by omega) rs rw' kd ke)
        rw [dEq, ← dEqs_range, ← rs.length, ← rw'.length]
        simp only [List.size_toArray] at q
        exact q
  | lst ht rs =>
    cases y with
    | non => exact RcNeAt.list_none ht hu0
    | bl b => exact RcNeAt.list_bool b ht hu0
    | int b t1 => exact RcNeAt.list_int b t1 ht hu0
    | str b t1 => exact RcNeAt.list_str b t1 ht hu0
    | tup hw _ =>
      rw [dEq]; exact RcNeAt.list_tuple ht hw hu0
      all_goals (intros; simp_all)
    | @lst b ws es hw rw' =>
      cases n with
      | zero => rw [dOk] at kd; cases kd
      | succ n =>
        rw [dOk] at kd ke
        rw [dEq, ← dEqs_range, ← rs.length, ← rw'.length]
        rename_i us _
        by_cases hsz : us.length = ws.length
        · have q := RcNeAt.lists ht hw (by simpa using hsz) hu0 (pairs_D (by omega) rs rw' kd ke)
          simp only [List.size_toArray] at q
          rw [← hsz, Nat.min_self, beq_self_eq_true, Bool.and_true]
          exact q
        · have q := RcNeAt.lists_lengths ht hw (by simpa using hsz) hu0
          have e0 : (us.length == ws.length) = false := by simpa using hsz
          rw [e0, Bool.and_false]
          exact q
end
end VL

set_option Elab.async false
set_option linter.all false
set_option maxRecDepth 100000
set_option autoImplicit false
/-! The value layer, part 4: operations. -/
namespace VL
open PySem PySem.Spec L2

section
variable {K : PySem.W.Frag} {H : Hp} {W : AS} {p : Addr} {vs : List V} {ds : List D}
theorem ks_new {o : HO} (h : H p = none) : Ks H W (upd H p o) (fun b => b = p ∨ W b) :=
  ⟨fun b x _ e => same_new h b x e, fun b z => z.elim (fun q => .inr (by rw [q]; exact h)) .inl⟩
theorem out_at {v : V} {d : D} (r : Rep K H W v d) : Out K H W v H (.val d) := ⟨Same.refl _, r⟩
theorem out_tup {o : Obj} (hd : o.dict = none) (wd : ∀ b, W b → H b ≠ none) (h : H p = none) (r : Reps K H W vs ds) : Out K H W (.ref p) (upd H p (.frz o (.tup vs))) (.val (.tup ds)) :=
  ⟨same_new h, .tup (fun z => wd p z h) ⟨o, upd_same, hd⟩ (r.ks (Ks.same (same_new h)))⟩
theorem out_lst (wd : ∀ b, W b → H b ≠ none) (h : H p = none) (r : Reps K H W vs ds) : Out K H W (.ref p) (upd H p (.lst vs)) (.fresh (.lst ds)) :=
  ⟨same_new h, p, rfl, h, vs, upd_same, r.ks (ks_new h)⟩
end
abbrev bl (b : Bool) : P := .val (.bl b)
abbrev il (i : Int) : P := .val (.int i)

/-! ### two operands -/
@[simp] def dAdd : D → D → Option P
  | .int i, .int j => some (il (i + j))
  | .str a, .str b => if a.length + b.length ≤ sizeLine then some (.val (.str (a ++ b))) else none
  | .tup a, .tup b => if a.length + b.length ≤ sizeLine then some (.val (.tup (a ++ b))) else none
  | .lst a, .lst b => if a.length + b.length ≤ sizeLine then some (.fresh (.lst (a ++ b))) else none
  | _, _ => none
@[simp] def dSub : D → D → Option P
  | .int i, .int j => some (il (i - j))
  | _, _ => none
def mulFit (i j : Int) : Bool := (decide (-(2 ^ 64) < i) && decide (i < 2 ^ 64)) || (decide (-(2 ^ 64) < j) && decide (j < 2 ^ 64)) || decide (i.natAbs.log2 + j.natAbs.log2 < 1000000)
@[simp] def dMul : D → D → Option P
  | .int i, .int j => if mulFit i j then some (il (i * j)) else none
  | .lst a, .int k => if 0 ≤ k ∧ k < 2 ^ 63 ∧ a.length * k.toNat ≤ sizeLine then some (.fresh (.lst (List.replicate k.toNat a).flatten)) else none
  | _, _ => none
@[simp] def dMod : D → D → Option P
  | .int i, .int j => if 0 < j then some (il (i % j)) else none
  | _, _ => none
@[simp] def dDiv : D → D → Option P
  | .int i, .int j => if 0 < j ∧ (j < 1073741824 ∨ j.natAbs.log2 < 9000) then some (il (i / j)) else none
  | _, _ => none
@[simp] def dPow : D → D → Option P
  | .int i, .int j => if 0 ≤ j ∧ j ≤ 1000000 ∧ i.natAbs < 2 ^ 64 then some (il (i ^ j.toNat)) else none
  | _, _ => none
@[simp] def dNeg : D → Option P
  | .int i => some (il (-i))
  | _ => none
/-- how deep data may be that are compared -/
abbrev far : Nat := 40
@[simp] def dEqO (x y : D) : Option P := if dOk x far && dOk y far then some (bl (dEq x y)) else none
@[simp] def dNeO (x y : D) : Option P := if dOk x far && dOk y far then some (bl (!dEq x y)) else none
@[simp] def dIsN : D → D → Option P
  | .non, .non => some (bl true)
  | .ty _, .non => none
  | _, .non => some (bl false)
  | _, _ => none
@[simp] def dNotN : D → D → Option P
  | .non, .non => some (bl false)
  | .ty _, .non => none
  | _, .non => some (bl true)
  | _, _ => none
@[simp] def dLt : D → D → Option P
  | .int i, .int j => some (bl (decide (i < j)))
  | .str i, .str j => some (bl (decide (i.cps.toList < j.cps.toList)))
  | _, _ => none
@[simp] def dLe : D → D → Option P
  | .int i, .int j => some (bl (decide (i ≤ j)))
  | _, _ => none
@[simp] def dGt : D → D → Option P
  | .int i, .int j => some (bl (decide (j < i)))
  | _, _ => none
@[simp] def dGe : D → D → Option P
  | .int i, .int j => some (bl (decide (j ≤ i)))
  | _, _ => none

section
variable {X : Cx}
/-- a new tuple, known as it stands -/
theorem laidT {pins : List (Addr × Obj)} {σ : L2.St} {H : Hp} {s : Shared} {xs : List V} {its : List Value} (I : L2.Inv X pins σ H s) (rv : Vals xs its) (hz : xs.length ≤ sizeLine) :
    L2.Inv X pins σ (upd H s.heap.objs.size (.frz { cls := .type "tuple", data := .seq its.toArray } (.tup xs))) { s with heap := s.heap.push { cls := .type "tuple", data := .seq its.toArray } } :=
  I.laid (t' := s.toks) (o := .frz { cls := .type "tuple", data := .seq its.toArray } (.tup xs)) (fun b u e => Heap.get?_push_of_some _ e) (Nat.le_refl _) ⟨Heap.get?_push_size _ rfl, hz, its, rv, PyProof.Rows.IsTup.new _ _⟩
/-- t + u -/
def rCatF (K : PySem.W.Frag) : R2 := fun x y H Q => ∃ a b xs ys, x = .ref a ∧ y = .ref b ∧ SqT K H a xs ∧ SqT K H b ys ∧ xs.length + ys.length ≤ sizeLine ∧
  (xs = [] → Q (.ref b) H) ∧ (xs ≠ [] → ys = [] → Q (.ref a) H) ∧ (xs ≠ [] → ys ≠ [] → ∀ p o, o.dict = none → H p = none → Q (.ref p) (upd H p (.frz o (.tup (xs ++ ys)))))
theorem op_catF : OpR X (binaryOp .Add) (rCatF X.K) := by
  intro pins s σ H x y v u Q I rx ry h
  obtain ⟨a, b, xs, ys, rfl, rfl, ha, hb, hz, q0, q1, q2⟩ := h
  cases rx
  cases ry
  obtain ⟨its, r1, p1, _⟩ := I.tuple ha
  obtain ⟨its2, r2, p2, _⟩ := I.tuple hb
  by_cases hx : xs = []
  · subst hx
    cases r1
    exact cat_tup0 p1 p2 ⟨.ref b, H, I, rfl, q0 rfl⟩
  · refine HT.cat_tup p1 p2 (fun z => hx (r1.nil_iff.mp z)) (fun z => ⟨.ref a, H, I, rfl, q1 hx (r2.nil_iff.mp z)⟩) (fun z => ?_) (by rw [← r1.length, ← r2.length]; exact hz)
    exact ⟨.ref s.heap.objs.size, _, laidT I (r1.append r2) (by rw [List.length_append]; exact hz), rfl, q2 hx (fun w => z (r2.nil_iff.mpr w)) _ _ rfl (I.hok.fresh (Nat.le_refl _))⟩
/-- tuple(xs) -/
theorem call_tuple_ofF : CallR X (.type "tuple") (fun xs H Q => ∃ p ys, xs = [.ref p] ∧ ((SqL X.K H p ys ∧ ∀ l o, o.dict = none → H l = none → Q (.ref l) (upd H l (.frz o (.tup ys)))) ∨ (SqT X.K H p ys ∧ Q (.ref p) H))) := by
  intro pins s σ H xs us Q I r h
  obtain ⟨p, ys, rfl, h⟩ := h
  rw [Vals.ref1 r]
  rcases h with ⟨hq, q⟩ | ⟨hq, q⟩
  · obtain ⟨its, r', pl, hz⟩ := I.list hq
    have hlen := r'.length
    have hl := sizeLine_eq
    refine call_tuple_list pl.isList (fun h' kp => ?_) (by simp only [List.size_toArray] <;> omega)
    have I1 : L2.Inv X pins σ H { s with heap := h' } := I.kept (t' := s.toks) kp
    exact ⟨.ref h'.objs.size, _, laidT I1 r' hz, rfl, q _ _ rfl (I1.hok.fresh (Nat.le_refl _))⟩
  · obtain ⟨its, r', pl, hz⟩ := I.tuple hq
    exact call_tuple_same pl ⟨.ref p, H, I, rfl, q⟩
/-- t[lo:hi] -/
def rSlF (K : PySem.W.Frag) : V → Option Int → Option Int → Hp → VK → Prop := fun x lo hi H Q => ∃ a xs, x = .ref a ∧ SqT K H a xs ∧
  (HT.sIx xs.length 0 lo = 0 ∧ HT.sIx xs.length xs.length hi = xs.length → Q (.ref a) H) ∧ (¬ (HT.sIx xs.length 0 lo = 0 ∧ HT.sIx xs.length xs.length hi = xs.length) → ∀ p o, o.dict = none → H p = none → Q (.ref p) (upd H p (.frz o (.tup (cutV xs lo hi)))))
theorem sl_tupF : SlR X (rSlF X.K) := by
  intro pins s σ H x v vl vu lo hi sl Q I rx hs pl pu h
  obtain ⟨a, xs, rfl, hx, q1, q2⟩ := h
  cases rx
  obtain ⟨its, r, ht, hz⟩ := I.tuple hx
  have hlen : its.toArray.size = xs.length := by rw [List.size_toArray]; exact r.length.symm
  by_cases hw : HT.sIx xs.length 0 lo = 0 ∧ HT.sIx xs.length xs.length hi = xs.length
  · refine ⟨"tuple", _, PyProof.Rows.slot_tuple_getitem.lookup, ht.typeIs, ?_⟩
    exact getItem_tuple_whole ht hs pl pu (by rw [hlen]; exact hw) ⟨.ref a, H, I, rfl, q1 hw⟩
  · refine ⟨"tuple", _, PyProof.Rows.slot_tuple_getitem.lookup, ht.typeIs, ?_⟩
    refine HT.getItem_tuple_cut ht hs pl pu (by rw [hlen]; exact hw) ?_ (by rw [hlen]; exact hz)
    rw [hlen]
    exact ⟨.ref s.heap.objs.size, _, laidT I ((r.drop (HT.sIx xs.length 0 lo)).take (HT.sIx xs.length xs.length hi - HT.sIx xs.length 0 lo)) (Nat.le_trans (cutV_length xs lo hi) hz), rfl, q2 hw _ _ rfl (I.hok.fresh (Nat.le_refl _))⟩
/-- (a, b, ..) -/
def tTupF (t : TA) : TE := fun σ H Q => t σ H fun xs H1 => xs.length ≤ sizeLine ∧ ∀ p o, o.dict = none → H1 p = none → Q (.ref p) (upd H1 p (.frz o (.tup xs)))
theorem pe_tupF {es : List Expr} {t : TA} {x1} {pos : Pos} (h : PA X es t) : PE X (.Tuple es x1 pos) (tTupF t) := by
  refine ⟨fun pins s σ H Q I hq => ?_⟩
  refine wpAny_Tuple_spliced (thn (h.run pos pins s σ H _ I hq) fun us s1 ⟨xs, H1, I1, r, z, q⟩ => ⟨by rw [← r.length]; exact z, ?_⟩)
  exact ⟨.ref s1.heap.objs.size, _, laidT I1 r z, rfl, q _ _ rfl (I1.hok.fresh (Nat.le_refl _))⟩
theorem ob_add : OpR X (binaryOp .Add) (r2D X.K dAdd) := by
  intro pins s σ H x y v u Q I rx ry ⟨W, dx, dy, r, wd, hx, hy, e, k⟩
  unfold dAdd at e
  split at e
  · cases e
    cases hx.int; cases hy.int
    exact op_add pins s σ H _ _ v u Q I rx ry ⟨_, _, rfl, rfl, k _ _ (out_at (.int _))⟩
  · split at e
    · rename_i hz
      cases e
      cases hx.str; cases hy.str
      exact op_add_str pins s σ H _ _ v u Q I rx ry ⟨_, _, rfl, rfl, hz, k _ _ (out_at (.str _))⟩
    · cases e
  · split at e
    · rename_i a b hz
      cases e
      rcases hx with hx | ⟨_, _, _, o⟩
      · rcases hy with hy | ⟨_, _, _, o⟩
        · cases hx with
          | @tup a1 vs ds n1 h1 r1 => cases hy with
            | @tup a2 us es n2 h2 r2 =>
              refine op_catF pins s σ H _ _ v u Q I rx ry ⟨a1, a2, vs, us, rfl, rfl, h1.seq, h2.seq, by rw [r1.length, r2.length]; exact hz, fun e1 => ?_, fun e1 e2 => ?_, fun _ _ p o ho hp => ?_⟩
              · subst e1; cases r1
                exact k _ _ (out_at (by rw [List.nil_append]; exact .tup n2 h2 r2))
              · subst e2; cases r2
                exact k _ _ (out_at (by rw [List.append_nil]; exact .tup n1 h1 r1))
              · exact k _ _ (out_tup ho wd hp (r1.append r2))
        · exact o.elim
      · exact o.elim
    · cases e
  · split at e
    · rename_i a b hz
      cases e
      obtain ⟨a1, vs, rfl, h1, r1⟩ := hx.lst
      obtain ⟨a2, us, rfl, h2, r2⟩ := hy.lst
      exact op_cat pins s σ H _ _ v u Q I rx ry ⟨a1, a2, vs, us, rfl, rfl, h1, h2, by rw [r1.length, r2.length]; exact hz, fun p hp => k _ _ (out_lst wd hp (r1.append r2))⟩
    · cases e
  · cases e
theorem ob_sub : OpR X (binaryOp .Sub) (r2D X.K dSub) := by
  intro pins s σ H x y v u Q I rx ry ⟨W, dx, dy, r, wd, hx, hy, e, k⟩
  unfold dSub at e
  split at e
  · cases e
    cases hx.int; cases hy.int
    exact op_sub pins s σ H _ _ v u Q I rx ry ⟨_, _, rfl, rfl, k _ _ (out_at (.int _))⟩
  · cases e
theorem reps_rep {K : PySem.W.Frag} {H : Hp} {W : AS} {vs : List V} {ds : List D} (r : Reps K H W vs ds) : ∀ n, Reps K H W (List.replicate n vs).flatten (List.replicate n ds).flatten
  | 0 => .nil
  | n + 1 => by
    rw [List.replicate_succ, List.replicate_succ, List.flatten_cons, List.flatten_cons]
    exact r.append (reps_rep r n)
theorem ob_mul : OpR X (binaryOp .Mult) (r2D X.K dMul) := by
  intro pins s σ H x y v u Q I rx ry ⟨W, dx, dy, r, wd, hx, hy, e, k⟩
  unfold dMul at e
  split at e
  · split at e
    · rename_i i j hm
      cases e
      cases hx.int; cases hy.int
      unfold mulFit at hm
      simp only [Bool.or_eq_true, Bool.and_eq_true, decide_eq_true_eq] at hm
      rcases hm with hm | hm
      · exact op_mul pins s σ H _ _ v u Q I rx ry ⟨_, _, rfl, rfl, hm, k _ _ (out_at (.int _))⟩
      · exact op_mulW pins s σ H _ _ v u Q I rx ry ⟨_, _, rfl, rfl, hm, k _ _ (out_at (.int _))⟩
    · cases e
  · split at e
    · rename_i a b hz
      cases e
      obtain ⟨a1, vs, rfl, h1, r1⟩ := hx.lst
      cases hy.int
      obtain ⟨z0, z1, z2⟩ := hz
      exact op_rep pins s σ H _ _ v u Q I rx ry ⟨a1, _, vs, rfl, rfl, h1, by omega, z1, by rw [r1.length]; exact z2, fun p hp => k _ _ (out_lst wd hp (reps_rep r1 _))⟩
    · cases e
  · cases e
theorem ob_mod : OpR X (binaryOp .Mod) (r2D X.K dMod) := by
  intro pins s σ H x y v u Q I rx ry ⟨W, dx, dy, r, wd, hx, hy, e, k⟩
  unfold dMod at e
  split at e
  · split at e
    · rename_i i j hm
      cases e
      cases hx.int; cases hy.int
      exact op_mod pins s σ H _ _ v u Q I rx ry ⟨_, _, rfl, rfl, hm, k _ _ (out_at (.int _))⟩
    · cases e
  · cases e
theorem ob_div : OpR X (binaryOp .FloorDiv) (r2D X.K dDiv) := by
  intro pins s σ H x y v u Q I rx ry ⟨W, dx, dy, r, wd, hx, hy, e, k⟩
  unfold dDiv at e
  split at e
  · split at e
    · rename_i i j hm
      cases e
      cases hx.int; cases hy.int
      rcases hm with ⟨h0, h1 | h1⟩
      · exact op_fdiv pins s σ H _ _ v u Q I rx ry ⟨_, _, rfl, rfl, ⟨h0, h1⟩, k _ _ (out_at (.int _))⟩
      · exact op_fdivW pins s σ H _ _ v u Q I rx ry ⟨_, _, rfl, rfl, ⟨h0, h1⟩, k _ _ (out_at (.int _))⟩
    · cases e
  · cases e
theorem ob_pow : OpR X (binaryOp .Pow) (r2D X.K dPow) := by
  intro pins s σ H x y v u Q I rx ry ⟨W, dx, dy, r, wd, hx, hy, e, k⟩
  unfold dPow at e
  split at e
  · split at e
    · rename_i i j hm
      cases e
      cases hx.int; cases hy.int
      exact op_pow pins s σ H _ _ v u Q I rx ry ⟨_, _, rfl, rfl, hm, k _ _ (out_at (.int _))⟩
    · cases e
  · cases e
theorem ou_neg : UnR X (unaryOp .USub) (r1D X.K dNeg) := by
  intro pins s σ H x v Q I rx ⟨W, dx, r, wd, hx, e, k⟩
  unfold dNeg at e
  split at e
  · cases e
    cases hx.int
    exact un_neg pins s σ H _ v Q I rx ⟨_, rfl, k _ _ (out_at (.int _))⟩
  · cases e
theorem oc_eq (hu : X.A.units + 64 < cLine) : OpR X (compareOp .Eq) (r2D X.K dEqO) := by
  intro pins s σ H x y v u Q I rx ry ⟨W, dx, dy, r, wd, hx, hy, e, k⟩
  unfold dEqO at e
  split at e
  · rename_i hk
    cases e
    rw [Bool.and_eq_true] at hk
    have q1 := VD.ofRd I hx rx hk.1
    have q2 := VD.ofRd I hy ry hk.2
    exact rcAt_D (A := X.A) hk.1 hk.2 q1 q2 (by unfold far; omega) _ _ _ _ ⟨.bl _, H, I, rfl, k _ _ (out_at (.bl _))⟩
  · cases e
theorem oc_ne (hu : X.A.units + 64 < cLine) : OpR X (compareOp .NotEq) (r2D X.K dNeO) := by
  intro pins s σ H x y v u Q I rx ry ⟨W, dx, dy, r, wd, hx, hy, e, k⟩
  unfold dNeO at e
  split at e
  · rename_i hk
    cases e
    rw [Bool.and_eq_true] at hk
    have q1 := VD.ofRd I hx rx hk.1
    have q2 := VD.ofRd I hy ry hk.2
    exact rcNeAt_D (A := X.A) hk.1 hk.2 q1 q2 (by unfold far; omega) _ _ _ _ ⟨.bl _, H, I, rfl, k _ _ (out_at (.bl _))⟩
  · cases e
/-- not None -/
def notNone : D → Bool
  | .non => false
  | .ty _ => false
  | _ => true
theorem rdv_none {W : AS} {K : PySem.W.Frag} {H : Hp} {x : V} {d : D} (h : RdV K H W x d) (n : notNone d = true) : decide (x = V.non) = false := by
  refine decide_eq_false fun z => ?_
  subst z
  rcases h with h | ⟨a, e, _⟩
  · cases h; cases n
  · cases e
theorem oc_isN : OpR X (compareOp .Is) (r2D X.K dIsN) := by
  intro pins s σ H x y v u Q I rx ry ⟨W, dx, dy, r, wd, hx, hy, e, k⟩
  unfold dIsN at e
  split at e
  · cases e
    cases hx.non; cases hy.non
    exact op_isN pins s σ H _ _ v u Q I rx ry ⟨rfl, k _ _ (out_at (.bl _))⟩
  · cases e
  · rename_i n1 n2
    cases e
    cases hy.non
    refine op_isN pins s σ H _ _ v u Q I rx ry ⟨rfl, ?_⟩
    rw [rdv_none hx (by cases dx <;> first | rfl | exact absurd rfl n1 | exact absurd rfl (n2 _))]
    exact k _ _ (out_at (.bl _))
  · cases e
theorem oc_notN : OpR X (compareOp .IsNot) (r2D X.K dNotN) := by
  intro pins s σ H x y v u Q I rx ry ⟨W, dx, dy, r, wd, hx, hy, e, k⟩
  unfold dNotN at e
  split at e
  · cases e
    cases hx.non; cases hy.non
    exact op_notN pins s σ H _ _ v u Q I rx ry ⟨rfl, k _ _ (out_at (.bl _))⟩
  · cases e
  · rename_i n1 n2
    cases e
    cases hy.non
    refine op_notN pins s σ H _ _ v u Q I rx ry ⟨rfl, ?_⟩
    rw [rdv_none hx (by cases dx <;> first | rfl | exact absurd rfl n1 | exact absurd rfl (n2 _))]
    exact k _ _ (out_at (.bl _))
  · cases e
theorem oc_lt : OpR X (compareOp .Lt) (r2D X.K dLt) := by
  intro pins s σ H x y v u Q I rx ry ⟨W, dx, dy, r, wd, hx, hy, e, k⟩
  unfold dLt at e
  split at e
  · cases e
    cases hx.int; cases hy.int
    exact op_lt pins s σ H _ _ v u Q I rx ry ⟨_, _, rfl, rfl, k _ _ (out_at (.bl _))⟩
  · cases e
    cases hx.str; cases hy.str
    exact op_lt_str pins s σ H _ _ v u Q I rx ry ⟨_, _, rfl, rfl, k _ _ (out_at (.bl _))⟩
  · cases e
theorem oc_le : OpR X (compareOp .LtE) (r2D X.K dLe) := by
  intro pins s σ H x y v u Q I rx ry ⟨W, dx, dy, r, wd, hx, hy, e, k⟩
  unfold dLe at e
  split at e
  · cases e
    cases hx.int; cases hy.int
    exact op_le pins s σ H _ _ v u Q I rx ry ⟨_, _, rfl, rfl, k _ _ (out_at (.bl _))⟩
  · cases e
theorem oc_gt : OpR X (compareOp .Gt) (r2D X.K dGt) := by
  intro pins s σ H x y v u Q I rx ry ⟨W, dx, dy, r, wd, hx, hy, e, k⟩
  unfold dGt at e
  split at e
  · cases e
    cases hx.int; cases hy.int
    exact op_gt pins s σ H _ _ v u Q I rx ry ⟨_, _, rfl, rfl, k _ _ (out_at (.bl _))⟩
  · cases e
theorem oc_ge : OpR X (compareOp .GtE) (r2D X.K dGe) := by
  intro pins s σ H x y v u Q I rx ry ⟨W, dx, dy, r, wd, hx, hy, e, k⟩
  unfold dGe at e
  split at e
  · cases e
    cases hx.int; cases hy.int
    exact op_ge pins s σ H _ _ v u Q I rx ry ⟨_, _, rfl, rfl, k _ _ (out_at (.bl _))⟩
  · cases e
end
end VL

set_option Elab.async false
set_option linter.all false
set_option maxRecDepth 100000
set_option autoImplicit false
/-! The value layer, part 5: order of data, in, subscripts, calls of built-ins. -/
namespace VL
open PySem PySem.Spec L2

mutual
def toPy : D → PyData
  | .non => .none
  | .bl b => .bool b
  | .int i => .int i
  | .str x => .str x
  | .tup ds => .tuple (toPys ds)
  | .lst ds => .list (toPys ds)
  | .dct _ _ => .none
  | .frz _ => .none
  | .ty _ => .none
def toPys : List D → List PyData
  | [] => []
  | d :: ds => toPy d :: toPys ds
end
theorem toPys_map : ∀ ds : List D, toPys ds = ds.map toPy
  | [] => by rw [toPys]; rfl
  | d :: ds => by rw [toPys, toPys_map ds]; rfl
mutual
theorem toPy_inj : ∀ (d e : D) (n : Nat), dOk d n = true → dOk e n = true → toPy d = toPy e → d = e
  | .non, e, _, _, h2, h => by cases e <;> first | rfl | (simp only [toPy] at h; cases h; done) | (simp [dOk] at h2; done)
  | .bl b, e, _, _, h2, h => by cases e <;> first | (simp only [toPy] at h; cases h; rfl) | (simp only [toPy] at h; cases h; done) | (simp [dOk] at h2; done)
  | .int b, e, _, _, h2, h => by cases e <;> first | (simp only [toPy] at h; cases h; rfl) | (simp only [toPy] at h; cases h; done) | (simp [dOk] at h2; done)
  | .str b, e, _, _, h2, h => by cases e <;> first | (simp only [toPy] at h; cases h; rfl) | (simp only [toPy] at h; cases h; done) | (simp [dOk] at h2; done)
  | .tup ds, e, n, h1, h2, h => by
    cases e with
    | tup es =>
      cases n with
      | zero => rw [dOk] at h1; cases h1
      | succ n =>
        rw [dOk] at h1 h2
        simp only [toPy] at h
        injection h with h
        rw [toPys_inj ds es n h1 h2 h]
    | _ => first | (simp only [toPy] at h; cases h; done) | (simp [dOk] at h2; done)
  | .lst ds, e, n, h1, h2, h => by
    cases e with
    | lst es =>
      cases n with
      | zero => rw [dOk] at h1; cases h1
      | succ n =>
        rw [dOk] at h1 h2
        simp only [toPy] at h
        injection h with h
        rw [toPys_inj ds es n h1 h2 h]
    | _ => first | (simp only [toPy] at h; cases h; done) | (simp [dOk] at h2; done)
  | .dct _ _, _, _, h1, _, _ => by rw [dOk] at h1; cases h1
  | .frz _, _, _, h1, _, _ => by rw [dOk] at h1; cases h1
  | .ty _, _, _, h1, _, _ => by rw [dOk] at h1; cases h1
theorem toPys_inj : ∀ (ds es : List D) (n : Nat), dOks ds n = true → dOks es n = true → toPys ds = toPys es → ds = es
  | [], [], _, _, _, _ => rfl
  | [], _ :: _, _, _, _, h => by simp only [toPys] at h; cases h
  | _ :: _, [], _, _, _, h => by simp only [toPys] at h; cases h
  | d :: ds, e :: es, n, h1, h2, h => by
    rw [dOks, Bool.and_eq_true] at h1 h2
    simp only [toPys] at h
    injection h with h3 h4
    rw [toPy_inj d e n h1.1 h2.1 h3, toPys_inj ds es n h1.2 h2.2 h4]
end
mutual
theorem toPy_depth : ∀ (d : D) (n : Nat), dOk d n = true → (toPy d).depth ≤ n
  | .non, _, _ => by simp [toPy, PyData.depth]
  | .bl _, _, _ => by simp [toPy, PyData.depth]
  | .int _, _, _ => by simp [toPy, PyData.depth]
  | .str _, _, _ => by simp [toPy, PyData.depth]
  | .tup ds, 0, h => by rw [dOk] at h; cases h
  | .tup ds, n + 1, h => by
    rw [dOk] at h
    have := toPys_depth ds n h
    simp only [toPy, PyData.depth]
    omega
  | .lst ds, 0, h => by rw [dOk] at h; cases h
  | .lst ds, n + 1, h => by
    rw [dOk] at h
    have := toPys_depth ds n h
    simp only [toPy, PyData.depth]
    omega
  | .dct _ _, _, h => by rw [dOk] at h; cases h
  | .frz _, _, h => by rw [dOk] at h; cases h
  | .ty _, _, h => by rw [dOk] at h; cases h
theorem toPys_depth : ∀ (ds : List D) (n : Nat), dOks ds n = true → PyData.depthAll (toPys ds) ≤ n
  | [], _, _ => by simp [toPys, PyData.depthAll]
  | d :: ds, n, h => by
    rw [dOks, Bool.and_eq_true] at h
    have h1 := toPy_depth d n h.1
    have h2 := toPys_depth ds n h.2
    simp only [toPys, PyData.depthAll]
    omega
end
section
variable {h : Heap}
mutual
theorem VD.reads : ∀ {u : Value} {d : D}, VD h u d → ∃ as, Reads h u (toPy d) as
  | _, _, .non => ⟨_, by rw [toPy]; exact Reads.none⟩
  | _, _, .bl b => ⟨_, by rw [toPy]; exact Reads.bool b⟩
  | _, _, .int i t => ⟨_, by rw [toPy]; exact Reads.int i t⟩
  | _, _, .str x t => ⟨_, by rw [toPy]; exact Reads.str x t⟩
  | _, _, .tup ⟨o, ho, hc, n, hd⟩ rs => by
    obtain ⟨as, r⟩ := VDs.reads rs
    exact ⟨_, by rw [toPy]; exact Reads.tuple ho hc hd r⟩
  | _, _, .lst ⟨o, ho, hc, n, hd⟩ rs => by
    obtain ⟨as, r⟩ := VDs.reads rs
    exact ⟨_, by rw [toPy]; exact Reads.list ho hc hd r⟩
theorem VDs.reads : ∀ {us : List Value} {ds : List D}, VDs h us ds → ∃ as, ReadsAll h us (toPys ds) as
  | _, _, .nil => ⟨_, by rw [toPys]; exact ReadsAll.nil⟩
  | _, _, .cons r t => by
    obtain ⟨as, r1⟩ := VD.reads r
    obtain ⟨bs, r2⟩ := VDs.reads t
    exact ⟨_, by rw [toPys]; exact ReadsAll.cons r1 r2⟩
end
end

/-! ### a list or a tuple that may be read -/
def seqOf : D → Option (List D)
  | .lst ds => some ds
  | .tup ds => some ds
  | .frz ds => some ds
  | _ => none
theorem RdV.seq {K : PySem.W.Frag} {H : Hp} {W : AS} {v : V} {d : D} {ds : List D} (r : RdV K H W v d) (e : seqOf d = some ds) : ∃ a vs, v = .ref a ∧ (SqL K H a vs ∨ SqT K H a vs) ∧ Reps K H W vs ds := by
  cases d with
  | lst es => cases e; obtain ⟨a, vs, e, h, r⟩ := r.lst; exact ⟨a, vs, e, .inl (SqL.of h), r⟩
  | tup es => cases e; obtain ⟨a, vs, e, h, r⟩ := r.tup; exact ⟨a, vs, e, .inr (h.seq), r⟩
  | frz es => cases e; obtain ⟨a, vs, e, h, r⟩ := r.frz; exact ⟨a, vs, e, .inl h, r⟩
  | _ => cases e

/-! ### dicts by value -/
def dctAt : List Key → List D → Key → Option D
  | k :: ks, d :: ds, j => if k = j then some d else dctAt ks ds j
  | _, _, _ => none
@[simp] def keyD : D → Option Key
  | .int i => some (.inl i)
  | .str x => some (.inr x)
  | _ => none
theorem dct_val {K : PySem.W.Frag} {H : Hp} {W : AS} : ∀ {ks : List Key} {vs : List V} {ds : List D} (j : Key), ks.length = vs.length → Reps K H W vs ds →
    (∀ d, dctAt ks ds j = some d → ∃ v, valV (ks.zip vs) j = some v ∧ Rep K H W v d) ∧ (dctAt ks ds j = none → valV (ks.zip vs) j = none)
  | [], _, _, j, l, .nil => ⟨fun d e => (by cases e), fun _ => rfl⟩
  | k :: ks, v :: vs, d :: ds, j, l, .cons r t => by
    have ih := dct_val (ks := ks) j (by simpa using l) t
    by_cases e : k = j
    · refine ⟨fun d' q => ?_, fun q => ?_⟩
      · rw [dctAt, if_pos e] at q
        cases q
        exact ⟨v, valV_pos e, r⟩
      · rw [dctAt, if_pos e] at q; cases q
    · refine ⟨fun d' q => ?_, fun q => ?_⟩
      · rw [dctAt, if_neg e] at q
        obtain ⟨v', h1, h2⟩ := ih.1 d' q
        exact ⟨v', (valV_neg (p := (k, v)) e).trans h1, h2⟩
      · rw [dctAt, if_neg e] at q
        exact (valV_neg (p := (k, v)) e).trans (ih.2 q)
theorem keyD_kV {K : PySem.W.Frag} {H : Hp} {W : AS} {v : V} {d : D} {k : Key} (r : RdV K H W v d) (e : keyD d = some k) : v = kV k := by
  cases d with
  | int i => cases e; exact r.int
  | str i => cases e; exact r.str
  | _ => cases e

/-! ### in -/
def strIn (a b : Str) : Bool := !(Builtin.Str.occurrences b a 0 b.length 1).isEmpty
def dIn (x c : D) : Option P := match c with
  | .lst ds => if dOk x far && dOks ds far then some (bl (ds.any fun y => dEq y x)) else none
  | .tup ds => if dOk x far && dOks ds far then some (bl (ds.any fun y => dEq y x)) else none
  | .str b => match x with
    | .str a => some (bl (strIn a b))
    | _ => none
  | .dct ks ds => match keyD x with
    | some k => some (bl (dctAt ks ds k).isSome)
    | none => none
  | _ => none
def dNotIn (x c : D) : Option P := match c with
  | .lst ds => if dOk x far && dOks ds far then some (bl (!ds.any fun y => dEq y x)) else none
  | .tup ds => if dOk x far && dOks ds far then some (bl (!ds.any fun y => dEq y x)) else none
  | .str b => match x with
    | .str a => some (bl (!strIn a b))
    | _ => none
  | .dct ks ds => match keyD x with
    | some k => some (bl (!(dctAt ks ds k).isSome))
    | none => none
  | _ => none

open Classical in
noncomputable def hitV (h : Heap) (x : D) (u : Value) : Bool := if h : ∃ d, VD h u d ∧ dEq d x = true then true else false
theorem hitV_eq {h : Heap} {x : D} {u : Value} {d : D} (r : VD h u d) : hitV h x u = dEq d x := by
  unfold hitV
  by_cases e : dEq d x = true
  · rw [dif_pos ⟨d, r, e⟩, e]
  · rw [dif_neg fun ⟨d', r', e'⟩ => e (by rw [VD.inj r r']; exact e')]
    cases q : dEq d x with
    | true => exact absurd q e
    | false => rfl
theorem hitV_any {h : Heap} {x : D} : ∀ {us : List Value} {ds : List D}, VDs h us ds → us.any (hitV h x) = ds.any fun y => dEq y x
  | _, _, .nil => rfl
  | _, _, .cons r t => by rw [List.any_cons, List.any_cons, hitV_eq r, hitV_any t]
theorem VDs.mem {h : Heap} : ∀ {us : List Value} {ds : List D} {u : Value}, VDs h us ds → u ∈ us → ∃ d, d ∈ ds ∧ VD h u d
  | _, _, u, .cons r t, m => by
    rcases List.mem_cons.mp m with rfl | m
    · exact ⟨_, List.mem_cons_self, r⟩
    · obtain ⟨d, h1, h2⟩ := VDs.mem t m
      exact ⟨d, List.mem_cons_of_mem _ h1, h2⟩

section
variable {X : Cx}
theorem rd_deep {K : PySem.W.Frag} {H : Hp} {W : AS} {v : V} {ds : List D} {n : Nat} (h : RdV K H W v (.lst ds) ∨ RdV K H W v (.tup ds)) : True := trivial
theorem oc_in (hu : X.A.units + 64 < cLine) : OpR X (compareOp .In) (r2D X.K dIn) := by
  intro pins s σ H x y v u Q I rx ry ⟨W, dx, dy, r, wd, hx, hy, e, k⟩
  unfold dIn at e
  split at e
  · split at e
    · rename_i ds hk
      cases e
      rw [Bool.and_eq_true] at hk
      have q1 := VD.ofRd I hx rx hk.1
      have q2 := VD.ofRd (n := far + 1) I hy ry (by rw [dOk]; exact hk.2)
      cases q2 with
      | @lst a us _ hl rs =>
        refine SeqAt.in_listAt (hitV s.heap dx) hl (fun w hw => ?_) ⟨.bl _, H, I, rfl, ?_⟩
        · obtain ⟨d, hd, rd⟩ := rs.mem (by simpa using hw)
          rw [hitV_eq rd]
          exact eqAt_D far X.A.in1 (dOks_mem hk.2 hd) hk.1 rd q1 (by rw [units_in1]; unfold far; omega)
        · rw [show us.toArray.any (hitV s.heap dx) = us.any (hitV s.heap dx) by simp, hitV_any rs]
          exact k _ _ (out_at (.bl _))
    · cases e
  · split at e
    · rename_i ds hk
      cases e
      rw [Bool.and_eq_true] at hk
      have q1 := VD.ofRd I hx rx hk.1
      have q2 := VD.ofRd (n := far + 1) I hy ry (by rw [dOk]; exact hk.2)
      cases q2 with
      | @tup a us _ hl rs =>
        refine SeqAt.in_tupleAt (hitV s.heap dx) hl (fun w hw => ?_) ⟨.bl _, H, I, rfl, ?_⟩
        · obtain ⟨d, hd, rd⟩ := rs.mem (by simpa using hw)
          rw [hitV_eq rd]
          exact eqAt_D far X.A.in1 (dOks_mem hk.2 hd) hk.1 rd q1 (by rw [units_in1]; unfold far; omega)
        · rw [show us.toArray.any (hitV s.heap dx) = us.any (hitV s.heap dx) by simp, hitV_any rs]
          exact k _ _ (out_at (.bl _))
    · cases e
  · split at e
    · cases e
      cases hx.str; cases hy.str
      exact op_in_str pins s σ H _ _ v u Q I rx ry ⟨_, _, rfl, rfl, k _ _ (out_at (.bl _))⟩
    · cases e
  · split at e
    · rename_i ks ds _ j ej
      cases e
      obtain ⟨a, vs, rfl, h1, hl, r1⟩ := hy.dct
      cases keyD_kV hx ej
      cases ry
      have q := dct_val j hl r1
      refine d_in (by omega) I (DGet.k h1) rx fun s' I' => ⟨.bl _, H, I', rfl, ?_⟩
      have e2 : (valV (ks.zip vs) j).isSome = (dctAt ks ds j).isSome := by
        cases c : dctAt ks ds j with
        | none => rw [q.2 c]; rfl
        | some d => obtain ⟨v', e3, _⟩ := q.1 d c; rw [e3]; rfl
      rw [e2]
      exact k _ _ (out_at (.bl _))
    · cases e
  · cases e
theorem oc_notIn (hu : X.A.units + 64 < cLine) : OpR X (compareOp .NotIn) (r2D X.K dNotIn) := by
  intro pins s σ H x y v u Q I rx ry ⟨W, dx, dy, r, wd, hx, hy, e, k⟩
  unfold dNotIn at e
  split at e
  · split at e
    · rename_i ds hk
      cases e
      rw [Bool.and_eq_true] at hk
      have q1 := VD.ofRd I hx rx hk.1
      have q2 := VD.ofRd (n := far + 1) I hy ry (by rw [dOk]; exact hk.2)
      cases q2 with
      | @lst a us _ hl rs =>
        refine SeqAt.notIn_listAt (hitV s.heap dx) hl (fun w hw => ?_) ⟨.bl _, H, I, rfl, ?_⟩
        · obtain ⟨d, hd, rd⟩ := rs.mem (by simpa using hw)
          rw [hitV_eq rd]
          exact eqAt_D far X.A.in1 (dOks_mem hk.2 hd) hk.1 rd q1 (by rw [units_in1]; unfold far; omega)
        · rw [show us.toArray.any (hitV s.heap dx) = us.any (hitV s.heap dx) by simp, hitV_any rs]
          exact k _ _ (out_at (.bl _))
    · cases e
  · split at e
    · rename_i ds hk
      cases e
      rw [Bool.and_eq_true] at hk
      have q1 := VD.ofRd I hx rx hk.1
      have q2 := VD.ofRd (n := far + 1) I hy ry (by rw [dOk]; exact hk.2)
      cases q2 with
      | @tup a us _ hl rs =>
        refine SeqAt.notIn_tupleAt (hitV s.heap dx) hl (fun w hw => ?_) ⟨.bl _, H, I, rfl, ?_⟩
        · obtain ⟨d, hd, rd⟩ := rs.mem (by simpa using hw)
          rw [hitV_eq rd]
          exact eqAt_D far X.A.in1 (dOks_mem hk.2 hd) hk.1 rd q1 (by rw [units_in1]; unfold far; omega)
        · rw [show us.toArray.any (hitV s.heap dx) = us.any (hitV s.heap dx) by simp, hitV_any rs]
          exact k _ _ (out_at (.bl _))
    · cases e
  · split at e
    · cases e
      cases hx.str; cases hy.str
      exact op_notIn_str pins s σ H _ _ v u Q I rx ry ⟨_, _, rfl, rfl, k _ _ (out_at (.bl _))⟩
    · cases e
  · split at e
    · rename_i ks ds _ j ej
      cases e
      obtain ⟨a, vs, rfl, h1, hl, r1⟩ := hy.dct
      cases keyD_kV hx ej
      cases ry
      have q := dct_val j hl r1
      refine d_notIn (by omega) I (DGet.k h1) rx fun s' I' => ⟨.bl _, H, I', rfl, ?_⟩
      have e2 : (valV (ks.zip vs) j).isSome = (dctAt ks ds j).isSome := by
        cases c : dctAt ks ds j with
        | none => rw [q.2 c]; rfl
        | some d => obtain ⟨v', e3, _⟩ := q.1 d c; rw [e3]; rfl
      rw [e2]
      exact k _ _ (out_at (.bl _))
    · cases e
  · cases e
end

/-! ### subscripts -/
@[simp] def dIx : D → D → Option P
  | .str z, .int i => if z.length ≤ sizeLine then (match atI z.cps.toList i with
    | some c => some (.val (.str ⟨#[c]⟩))
    | none => none) else none
  | .lst ds, .int i => (match atI ds i with
    | some d => some (.val d)
    | none => none)
  | .tup ds, .int i => (match atI ds i with
    | some d => some (.val d)
    | none => none)
  | .frz ds, .int i => (match atI ds i with
    | some d => some (.val d)
    | none => none)
  | .dct ks ds, x => (match keyD x with
    | some k => (match dctAt ks ds k with
      | some d => some (.val d)
      | none => none)
    | none => none)
  | _, _ => none
theorem reps_atI {K : PySem.W.Frag} {H : Hp} {W : AS} {vs : List V} {ds : List D} {i : Int} {d : D} (r : Reps K H W vs ds) (e : atI ds i = some d) : ∃ v, atI vs i = some v ∧ Rep K H W v d := by
  unfold atI at e ⊢
  rw [r.length]
  cases q : ixN ds.length i with
  | none => rw [q] at e; cases e
  | some j =>
    rw [q] at e
    obtain ⟨v, h1, h2⟩ := r.get (show ds[j]? = some d from e)
    exact ⟨v, h1, h2⟩
section
variable {X : Cx}
theorem ix_D (hu : X.A.units + 64 < cLine) : IxR X (r2D X.K dIx) := by
  intro value slice pins s σ H x y v u Q I rx ry ⟨W, dx, dy, r, wd, hx, hy, e, k⟩ hs
  unfold dIx at e
  split at e
  · split at e
    · rename_i z i hz
      split at e
      · rename_i c hc
        cases e
        cases hx.str; cases hy.int
        exact ix_str value slice pins s σ H _ _ v u Q I rx ry ⟨_, _, _, rfl, rfl, hz, hc, k _ _ (out_at (.str _))⟩ hs
      · cases e
    · cases e
  · rename_i ds i
    split at e
    · rename_i d hd
      cases e
      obtain ⟨a, vs, rfl, h1, r1⟩ := hx.lst
      cases hy.int
      obtain ⟨w, h2, h3⟩ := reps_atI r1 hd
      exact ix_list value slice pins s σ H _ _ v u Q I rx ry ⟨a, vs, _, w, rfl, rfl, SqL.of h1, h2, k _ _ (out_at h3)⟩ hs
    · cases e
  · rename_i ds i
    split at e
    · rename_i d hd
      cases e
      obtain ⟨a, vs, rfl, h1, r1⟩ := hx.tup
      cases hy.int
      obtain ⟨w, h2, h3⟩ := reps_atI r1 hd
      exact ix_tup value slice pins s σ H _ _ v u Q I rx ry ⟨a, vs, _, w, rfl, rfl, h1.seq, h2, k _ _ (out_at h3)⟩ hs
    · cases e
  · rename_i ds i
    split at e
    · rename_i d hd
      cases e
      obtain ⟨a, vs, rfl, h1, r1⟩ := hx.frz
      cases hy.int
      obtain ⟨w, h2, h3⟩ := reps_atI r1 hd
      exact ix_list value slice pins s σ H _ _ v u Q I rx ry ⟨a, vs, _, w, rfl, rfl, h1, h2, k _ _ (out_at h3)⟩ hs
    · cases e
  · rename_i ks ds
    split at e
    · rename_i j ej
      split at e
      · rename_i d hd
        cases e
        obtain ⟨a, vs, rfl, h1, hl, r1⟩ := hx.dct
        cases keyD_kV hy ej
        cases rx
        obtain ⟨w, h2, h3⟩ := (dct_val j hl r1).1 d hd
        have g : DGet H a (kV j) (some w) := by rw [← h2]; exact DGet.k h1
        exact PyProof.Rows.tail_any (dict_typeIs I g) PySem.F.slot_dict_getitem.lookup (d_getItem (by omega) I g ry fun w' s' I' rw' => ⟨w, H, I', rw', k _ _ (out_at h3)⟩) hs
      · cases e
    · cases e
  · cases e
end
end VL

set_option Elab.async false
set_option linter.all false
set_option maxRecDepth 100000
set_option autoImplicit false
/-! The value layer, part 6: calls of built-ins. -/
namespace VL
open PySem PySem.Spec L2

section
variable {K : PySem.W.Frag} {H : Hp} {W : AS}
theorem rdvs1 {xs : List V} {d : D} (r : RdVs K H W xs [d]) : ∃ v, xs = [v] ∧ RdV K H W v d := by
  cases r with
  | cons r t => cases t; exact ⟨_, rfl, r⟩
theorem rdvs2 {xs : List V} {d e : D} (r : RdVs K H W xs [d, e]) : ∃ v u, xs = [v, u] ∧ RdV K H W v d ∧ RdV K H W u e := by
  cases r with
  | cons r t => cases t with
    | cons q t => cases t; exact ⟨_, _, rfl, r, q⟩
end

@[simp] def cLen : List D → Option P
  | [.str z] => if z.length ≤ sizeLine then some (il z.length) else none
  | [.dct ks _] => some (il ks.length)
  | [.lst ds] => some (il ds.length)
  | [.tup ds] => some (il ds.length)
  | [.frz ds] => some (il ds.length)
  | _ => none
@[simp] def cInt : List D → Option P
  | [.int i] => some (il i)
  | [.bl b] => some (il (if b then 1 else 0))
  | _ => none
@[simp] def cStr : List D → Option P
  | [.int i] => if i.natAbs.log2 < 1920 then some (.val (.str (toString i))) else none
  | [.str x] => some (.val (.str x))
  | _ => none
@[simp] def cAbs : List D → Option P
  | [.int i] => some (il (if i < 0 then -i else i))
  | _ => none
@[simp] def cTuple : List D → Option P
  | [.lst ds] => some (.val (.tup ds))
  | [.tup ds] => some (.val (.tup ds))
  | _ => none
@[simp] def cList : List D → Option P
  | [.lst ds] => some (.fresh (.lst ds))
  | [.tup ds] => some (.fresh (.lst ds))
  | [.frz ds] => some (.fresh (.lst ds))
  | _ => none
def intsOf : List D → Option (List Int)
  | [] => some []
  | .int i :: ds => match intsOf ds with
    | some ns => some (i :: ns)
    | none => none
  | _ => none
def boolsOf : List D → Option (List Bool)
  | [] => some []
  | .bl i :: ds => match boolsOf ds with
    | some ns => some (i :: ns)
    | none => none
  | _ => none
def cSum : List D → Option P
  | [.lst ds] => match intsOf ds with
    | some ns => some (il ns.sum)
    | none => none
  | [.tup ds] => match intsOf ds with
    | some ns => some (il ns.sum)
    | none => none
  | _ => none
def cAny : List D → Option P
  | [.lst ds] => match boolsOf ds with
    | some bs => some (bl (bs.any id))
    | none => none
  | _ => none
def cAll : List D → Option P
  | [.lst ds] => match boolsOf ds with
    | some bs => some (bl (bs.all id))
    | none => none
  | _ => none
@[simp] def tyName : D → Option String
  | .non => some "NoneType"
  | .bl _ => some "bool"
  | .int _ => some "int"
  | .str _ => some "str"
  | .lst _ => some "list"
  | .tup _ => some "tuple"
  | .dct _ _ => some "dict"
  | _ => none
@[simp] def cIsi : List D → Option P
  | [d, .ty n] => match tyName d with
    | some t => match kitB t n with
      | some b => some (bl b)
      | none => none
    | none => none
  | _ => none

theorem reps_ints {K : PySem.W.Frag} {H : Hp} {W : AS} : ∀ {vs : List V} {ds : List D} {ns : List Int}, Reps K H W vs ds → intsOf ds = some ns → vs = ns.map V.int ∧ ds = ns.map D.int
  | _, _, _, .nil, e => by cases e; exact ⟨rfl, rfl⟩
  | _, _, _, .cons (d := d) r t, e => by
    cases d with
    | int i =>
      simp only [intsOf] at e
      split at e
      · rename_i ms em
        cases e
        cases r
        obtain ⟨h1, h2⟩ := reps_ints t em
        exact ⟨by rw [h1]; rfl, by rw [h2]; rfl⟩
      · cases e
    | _ => simp [intsOf] at e
theorem reps_bools {K : PySem.W.Frag} {H : Hp} {W : AS} : ∀ {vs : List V} {ds : List D} {ns : List Bool}, Reps K H W vs ds → boolsOf ds = some ns → vs = ns.map V.bl ∧ ds = ns.map D.bl
  | _, _, _, .nil, e => by cases e; exact ⟨rfl, rfl⟩
  | _, _, _, .cons (d := d) r t, e => by
    cases d with
    | bl i =>
      simp only [boolsOf] at e
      split at e
      · rename_i ms em
        cases e
        cases r
        obtain ⟨h1, h2⟩ := reps_bools t em
        exact ⟨by rw [h1]; rfl, by rw [h2]; rfl⟩
      · cases e
    | _ => simp [boolsOf] at e
section
variable {X : Cx}
theorem cb_len : CallR X (.builtin "len") (rnD X.K cLen) := by
  intro pins s σ H xs us Q I rx ⟨W, ds, r, wd, hx, e, k⟩
  unfold cLen at e
  split at e
  · split at e
    · rename_i z hz
      cases e
      obtain ⟨v, rfl, hv⟩ := rdvs1 hx
      cases hv.str
      exact call_len_str pins s σ H _ us Q I rx ⟨z, rfl, hz, k _ _ (out_at (.int _))⟩
    · cases e
  · rename_i ks ds'
    cases e
    obtain ⟨v, rfl, hv⟩ := rdvs1 hx
    obtain ⟨a, vs, rfl, h1, hl, r1⟩ := hv.dct
    refine call_lenD pins s σ H _ us Q I rx ⟨a, _, rfl, h1, ?_⟩
    have e1 : (ks.zip vs).length = ks.length := by rw [List.length_zip, hl, Nat.min_self]
    rw [e1]
    exact k _ _ (out_at (.int _))
  · cases e
    obtain ⟨v, rfl, hv⟩ := rdvs1 hx
    obtain ⟨a, vs, rfl, h1, r1⟩ := hv.seq rfl
    exact call_len_seq pins s σ H _ us Q I rx ⟨a, vs, rfl, h1, by rw [r1.length]; exact k _ _ (out_at (.int _))⟩
  · cases e
    obtain ⟨v, rfl, hv⟩ := rdvs1 hx
    obtain ⟨a, vs, rfl, h1, r1⟩ := hv.seq rfl
    exact call_len_seq pins s σ H _ us Q I rx ⟨a, vs, rfl, h1, by rw [r1.length]; exact k _ _ (out_at (.int _))⟩
  · cases e
    obtain ⟨v, rfl, hv⟩ := rdvs1 hx
    obtain ⟨a, vs, rfl, h1, r1⟩ := hv.seq rfl
    exact call_len_seq pins s σ H _ us Q I rx ⟨a, vs, rfl, h1, by rw [r1.length]; exact k _ _ (out_at (.int _))⟩
  · cases e
theorem cb_int : CallR X (.type "int") (rnD X.K cInt) := by
  intro pins s σ H xs us Q I rx ⟨W, ds, r, wd, hx, e, k⟩
  unfold cInt at e
  split at e
  · cases e
    obtain ⟨v, rfl, hv⟩ := rdvs1 hx
    cases hv.int
    exact call_int1 pins s σ H _ us Q I rx (.inl ⟨_, rfl, k _ _ (out_at (.int _))⟩)
  · cases e
    obtain ⟨v, rfl, hv⟩ := rdvs1 hx
    cases hv.bl
    exact call_int1 pins s σ H _ us Q I rx (.inr ⟨_, rfl, k _ _ (out_at (.int _))⟩)
  · cases e
theorem cb_str : CallR X (.type "str") (rnD X.K cStr) := by
  intro pins s σ H xs us Q I rx ⟨W, ds, r, wd, hx, e, k⟩
  unfold cStr at e
  split at e
  · split at e
    · rename_i i hz
      cases e
      obtain ⟨v, rfl, hv⟩ := rdvs1 hx
      cases hv.int
      exact call_str_int pins s σ H _ us Q I rx ⟨_, rfl, hz, k _ _ (out_at (.str _))⟩
    · cases e
  · cases e
    obtain ⟨v, rfl, hv⟩ := rdvs1 hx
    cases hv.str
    exact SkE.call_str_str pins s σ H _ us Q I rx ⟨_, rfl, k _ _ (out_at (.str _))⟩
  · cases e
theorem cb_abs : CallR X (.builtin "abs") (rnD X.K cAbs) := by
  intro pins s σ H xs us Q I rx ⟨W, ds, r, wd, hx, e, k⟩
  unfold cAbs at e
  split at e
  · cases e
    obtain ⟨v, rfl, hv⟩ := rdvs1 hx
    cases hv.int
    exact call_abs pins s σ H _ us Q I rx ⟨_, rfl, k _ _ (out_at (.int _))⟩
  · cases e
theorem cb_tuple : CallR X (.type "tuple") (rnD X.K cTuple) := by
  intro pins s σ H xs us Q I rx ⟨W, ds, r, wd, hx, e, k⟩
  unfold cTuple at e
  split at e
  · cases e
    obtain ⟨v, rfl, hv⟩ := rdvs1 hx
    obtain ⟨a, vs, rfl, h1, r1⟩ := hv.lst
    exact call_tuple_ofF pins s σ H _ us Q I rx ⟨a, vs, rfl, .inl ⟨SqL.of h1, fun l o ho hl => k _ _ (out_tup ho wd hl r1)⟩⟩
  · cases e
    obtain ⟨v, rfl, hv⟩ := rdvs1 hx
    rcases hv with hv | ⟨_, _, _, o⟩
    · cases hv with
      | @tup a vs ds n h1 r1 =>
        exact call_tuple_ofF pins s σ H _ us Q I rx ⟨a, vs, rfl, .inr ⟨h1.seq, k _ _ (out_at (.tup n h1 r1))⟩⟩
    · exact o.elim
  · cases e
theorem cb_list : CallR X (.type "list") (rnD X.K cList) := by
  intro pins s σ H xs us Q I rx ⟨W, ds, r, wd, hx, e, k⟩
  unfold cList at e
  have go : ∀ {d : D} {es : List D}, ds = [d] → seqOf d = some es → r = .fresh (.lst es) → wpAny (model X.prog X.w) X.A (call (.type "list") us) (EP X pins σ Q) X.xe s := by
    intro d es h1 h2 h3
    subst h1; subst h3
    obtain ⟨v, rfl, hv⟩ := rdvs1 hx
    obtain ⟨a, vs, rfl, h1, r1⟩ := hv.seq h2
    exact call_list_of pins s σ H _ us Q I rx ⟨a, vs, rfl, h1, fun l hl => k _ _ (out_lst wd hl r1)⟩
  split at e
  · cases e; exact go rfl rfl rfl
  · cases e; exact go rfl rfl rfl
  · cases e; exact go rfl rfl rfl
  · cases e
theorem cb_sum (hc : X.calm = true) : CallR X (.builtin "sum") (rnD X.K cSum) := by
  intro pins s σ H xs us Q I rx ⟨W, ds, r, wd, hx, e, k⟩
  unfold cSum at e
  split at e
  · split at e
    · rename_i ns en
      cases e
      obtain ⟨v, rfl, hv⟩ := rdvs1 hx
      obtain ⟨a, vs, rfl, h1, r1⟩ := hv.lst
      obtain ⟨rfl, _⟩ := reps_ints r1 en
      exact cr_sum hc pins s σ H _ us Q I rx ⟨a, ns, rfl, SqL.of h1, k _ _ (out_at (.int _))⟩
    · cases e
  · split at e
    · rename_i ns en
      cases e
      obtain ⟨v, rfl, hv⟩ := rdvs1 hx
      obtain ⟨a, vs, rfl, h1, r1⟩ := hv.tup
      obtain ⟨rfl, _⟩ := reps_ints r1 en
      obtain ⟨its, rv, ht, _⟩ := I.tuple (h1.seq)
      rw [Vals.ref1 rx]
      obtain ⟨ys, hy⟩ := rv.ints.allInts.items
      have hn : PySem.numsOf its.toArray.toList = ns := by rw [show its.toArray.toList = its from rfl, rv.ints.numsOf]
      have hl : s.heap.IsTuple a its.toArray := ht
      rw [hy] at hl hn
      rw [PySem.nums_intItems] at hn
      refine PySem.W.ktm_sumG (I.ok.hd hc) hl fun h' tk t' hk => ⟨.int ns.sum, H, I.kept hk, ⟨t', ?_⟩, k _ _ (out_at (.int _))⟩
      rw [PySem.preSum_eq, List.take_of_length_le (by simp), hn]
    · cases e
  · cases e
theorem cb_any (hc : X.calm = true) : CallR X (.builtin "any") (rnD X.K cAny) := by
  intro pins s σ H xs us Q I rx ⟨W, ds, r, wd, hx, e, k⟩
  unfold cAny at e
  split at e
  · split at e
    · rename_i ns en
      cases e
      obtain ⟨v, rfl, hv⟩ := rdvs1 hx
      obtain ⟨a, vs, rfl, h1, r1⟩ := hv.lst
      obtain ⟨rfl, _⟩ := reps_bools r1 en
      exact cr_any hc pins s σ H _ us Q I rx ⟨a, ns, rfl, SqL.of h1, k _ _ (out_at (.bl _))⟩
    · cases e
  · cases e
theorem cb_all (hc : X.calm = true) : CallR X (.builtin "all") (rnD X.K cAll) := by
  intro pins s σ H xs us Q I rx ⟨W, ds, r, wd, hx, e, k⟩
  unfold cAll at e
  split at e
  · split at e
    · rename_i ns en
      cases e
      obtain ⟨v, rfl, hv⟩ := rdvs1 hx
      obtain ⟨a, vs, rfl, h1, r1⟩ := hv.lst
      obtain ⟨rfl, _⟩ := reps_bools r1 en
      exact cr_all hc pins s σ H _ us Q I rx ⟨a, ns, rfl, SqL.of h1, k _ _ (out_at (.bl _))⟩
    · cases e
  · cases e
theorem tyX_D {K : PySem.W.Frag} {H : Hp} {W : AS} {v : V} {d : D} {t : String} (r : RdV K H W v d) (e : tyName d = some t) : TyX K H v (.type t) := by
  cases d with
  | non => cases e; cases r.non; exact .base .non
  | bl b => cases e; cases r.bl; exact .base (.bl b)
  | int b => cases e; cases r.int; exact .base (.int b)
  | str b => cases e; cases r.str; exact .base (.str b)
  | tup ds => cases e; obtain ⟨a, vs, rfl, ⟨o, h, _⟩, _⟩ := r.tup; exact .fTuple h
  | lst ds => cases e; obtain ⟨a, vs, rfl, h, _⟩ := r.lst; exact .base (.lst h)
  | dct ks ds => cases e; obtain ⟨a, vs, rfl, h, _⟩ := r.dct; exact .base (.dK h)
  | _ => cases e
theorem cb_isi : CallR X (.builtin "isinstance") (rnD X.K cIsi) := by
  intro pins s σ H xs us Q I rx ⟨W, ds, r, wd, hx, e, k⟩
  unfold cIsi at e
  split at e
  · rename_i d nm
    split at e
    · rename_i t et
      split at e
      · rename_i b eb
        cases e
        obtain ⟨v, u, rfl, hv, hu⟩ := rdvs2 hx
        have hu' : u = .ty nm := by
          rcases hu with hu | ⟨_, _, _, o⟩
          · cases hu; rfl
          · exact o.elim
        subst hu'
        exact call_isi pins s σ H _ us Q I rx ⟨v, _, _, _, b, rfl, .ty _, tyX_D hv et, kit_ty eb, k _ _ (out_at (.bl _))⟩
      · cases e
    · cases e
  · cases e
end
end VL

set_option Elab.async false
set_option linter.all false
set_option maxRecDepth 100000
set_option autoImplicit false
/-! The value layer, part 7: changes of the state. -/
namespace VL
open PySem PySem.Spec L2
section
variable {K : PySem.W.Frag} {C : Ct} {Z Z' Z1 Z2 : Zn} {m m' : MS} {σ : L2.St} {H H' H1 H2 : Hp} {v : V} {d d' : D} {a : Addr} {i : Nat} {t : Tag}

theorem set_get {α : Type} {l : List α} {i j : Nat} {x y : α} (h : (l.set i x)[j]? = some y) : (j = i ∧ y = x ∧ i < l.length) ∨ (j ≠ i ∧ l[j]? = some y) := by
  by_cases e : j = i
  · subst e
    by_cases hl : j < l.length
    · rw [List.getElem?_set_self hl] at h; cases h; exact .inl ⟨rfl, rfl, hl⟩
    · rw [List.getElem?_eq_none (by simpa using hl)] at h; cases h
  · rw [List.getElem?_set_ne (Ne.symm e)] at h; exact .inr ⟨e, h⟩
theorem lt_of_get {α : Type} {l : List α} {i : Nat} {x : α} (h : l[i]? = some x) : i < l.length := by
  rcases Nat.lt_or_ge i l.length with q | q
  · exact q
  · rw [List.getElem?_eq_none q] at h; cases h
/-- a slot that may be stored anew: nobody's list by reference, no list that is walked -/
@[simp] def mayPut (m : MS) (i : Nat) : Bool := match sl m i with
  | some (.byr, _) => false
  | some (.lkO, _) => false
  | some (.lkB, _) => false
  | _ => true
theorem sl_of : ∀ {m : MS} {i : Nat} {x : Tag × D}, m[i]? = some (some x) → sl m i = some x
  | [], _, _, h => by simp at h
  | y :: m, 0, x, h => by
    have h' : some y = some (some x) := h
    cases h'; rfl
  | y :: m, i + 1, x, h => sl_of (m := m) (i := i) (by simpa using h)
theorem mayPut_no {p : Nat × Addr} (g : mayPut m i = true) (h : t = Tag.byr ∨ t = Tag.lkB ∨ t = Tag.lkO) (e : m[p.1]? = some (some (t, d))) : p.1 ≠ i := by
  rintro rfl
  unfold mayPut at g
  rw [sl_of e] at g
  rcases h with rfl | rfl | rfl <;> cases g
/-- a name takes data -/
theorem SR.putShr (S : SR K C Z m σ H) (g : mayPut m i = true) (r : Rep K H Z.W v d) : SR K C Z (m.set i (some (.shr, d))) (σ.set i (some v)) H := by
  refine ⟨by rw [List.length_set, List.length_set, S.len], fun j e q => ?_, fun j t e q n => ?_, fun j k tj tk dj dk b q1 q2 n1 n2 s1 s2 => ?_, S.base, S.keep, S.mr, S.mw, S.wdom, S.w0d, S.r0, fun j tj e b q n h => ?_, fun b hb => ?_, fun p hp => ?_, fun p hp => ?_⟩
  · rcases set_get q with ⟨rfl, e2, hl⟩ | ⟨ne, q⟩
    · cases e2
      exact ⟨v, by rw [List.getElem?_set_self (by rw [← S.len]; exact hl)], r⟩
    · obtain ⟨u, h1, h2⟩ := S.shr j e q
      exact ⟨u, by rw [List.getElem?_set_ne (Ne.symm ne)]; exact h1, h2⟩
  · rcases set_get q with ⟨rfl, e2, hl⟩ | ⟨ne, q⟩
    · cases e2; exact absurd rfl n
    · obtain ⟨u, h1, h2⟩ := S.own j t e q n
      exact ⟨u, by rw [List.getElem?_set_ne (Ne.symm ne)]; exact h1, h2⟩
  · rcases set_get q1 with ⟨rfl, e1, hl⟩ | ⟨ne1, q1⟩
    · cases e1; exact absurd rfl n1
    · rcases set_get q2 with ⟨rfl, e2, hl⟩ | ⟨ne2, q2⟩
      · cases e2; exact absurd rfl n2
      · rw [List.getElem?_set_ne (Ne.symm ne1)] at s1
        rw [List.getElem?_set_ne (Ne.symm ne2)] at s2
        exact S.inj j k tj tk dj dk b q1 q2 n1 n2 s1 s2
  · rcases set_get q with ⟨rfl, e2, hl⟩ | ⟨ne, q⟩
    · cases e2; rcases n with n | n <;> cases n
    · rw [List.getElem?_set_ne (Ne.symm ne)] at h
      exact S.lck j tj e b q n h
  · obtain ⟨h1, h2, h3, h4⟩ := S.res b hb
    refine ⟨h1, h2, h3, fun j tj e q n => ?_⟩
    rcases set_get q with ⟨rfl, e2, hl⟩ | ⟨ne, q⟩
    · cases e2; exact absurd rfl n
    · rw [List.getElem?_set_ne (Ne.symm ne)]
      exact h4 j tj e q n
  · obtain ⟨t, e, h1, h2, h3⟩ := S.lkd p hp
    have ne := mayPut_no g (h1.elim (fun z => .inr (.inr z)) fun z => .inr (.inl z)) h2
    exact ⟨t, e, h1, by rw [List.getElem?_set_ne (Ne.symm ne)]; exact h2, by rw [List.getElem?_set_ne (Ne.symm ne)]; exact h3⟩
  · obtain ⟨t, e, h1, h2, h3⟩ := S.byr p hp
    have ne := mayPut_no g (h1.elim .inl fun z => .inr (.inl z)) h2
    exact ⟨t, e, h1, by rw [List.getElem?_set_ne (Ne.symm ne)]; exact h2, by rw [List.getElem?_set_ne (Ne.symm ne)]; exact h3⟩
/-- a name takes a new object of its own -/
theorem SR.putOwn (S0 : SR K C Z m σ H) (S : SR K C (Z.add a) m σ H) (g : mayPut m i = true) (na : ¬ Z.W a) (h0 : C.H0 a = none) (o : Own K H (Z.add a).W a d) : SR K C (Z.add a) (m.set i (some (.own, d))) (σ.set i (some (.ref a))) H := by
  have old : ∀ (j : Nat) (tj : Tag) (dj : D), m[j]? = some (some (tj, dj)) → tj ≠ .shr → σ[j]? ≠ some (some (.ref a)) := fun j tj dj q n z => by
    obtain ⟨b, h1, h2, _⟩ := S0.own j tj dj q n
    rw [h1] at z
    cases z
    exact na h2
  refine ⟨by rw [List.length_set, List.length_set, S.len], fun j e q => ?_, fun j t e q n => ?_, fun j k tj tk dj dk b q1 q2 n1 n2 s1 s2 => ?_, S.base, S.keep, S.mr, S.mw, S.wdom, S.w0d, S.r0, fun j tj e b q n h => ?_, fun b hb => ?_, fun p hp => ?_, fun p hp => ?_⟩
  · rcases set_get q with ⟨rfl, e2, hl⟩ | ⟨ne, q⟩
    · cases e2
    · obtain ⟨u, h1, h2⟩ := S.shr j e q
      exact ⟨u, by rw [List.getElem?_set_ne (Ne.symm ne)]; exact h1, h2⟩
  · rcases set_get q with ⟨rfl, e2, hl⟩ | ⟨ne, q⟩
    · cases e2
      exact ⟨a, by rw [List.getElem?_set_self (by rw [← S.len]; exact hl)], .inl rfl, o, fun _ => .inl rfl, fun _ => h0, fun z => (by rcases z with z | z <;> cases z)⟩
    · obtain ⟨u, h1, h2⟩ := S.own j t e q n
      exact ⟨u, by rw [List.getElem?_set_ne (Ne.symm ne)]; exact h1, h2⟩
  · rcases set_get q1 with ⟨rfl, e1, hl⟩ | ⟨ne1, w1⟩
    · rcases set_get q2 with ⟨rfl, e2, hl2⟩ | ⟨ne2, w2⟩
      · rfl
      · rw [List.getElem?_set_self (by rw [← S.len]; exact hl)] at s1
        rw [List.getElem?_set_ne (Ne.symm ne2)] at s2
        cases s1
        exact absurd s2 (old k tk dk w2 n2)
    · rcases set_get q2 with ⟨rfl, e2, hl2⟩ | ⟨ne2, w2⟩
      · rw [List.getElem?_set_self (by rw [← S.len]; exact hl2)] at s2
        rw [List.getElem?_set_ne (Ne.symm ne1)] at s1
        cases s2
        exact absurd s1 (old j tj dj w1 n1)
      · rw [List.getElem?_set_ne (Ne.symm ne1)] at s1
        rw [List.getElem?_set_ne (Ne.symm ne2)] at s2
        exact S.inj j k tj tk dj dk b w1 w2 n1 n2 s1 s2
  · rcases set_get q with ⟨rfl, e2, hl⟩ | ⟨ne, q⟩
    · cases e2; rcases n with n | n <;> cases n
    · rw [List.getElem?_set_ne (Ne.symm ne)] at h
      exact S.lck j tj e b q n h
  · obtain ⟨h1, h2, h3, h4⟩ := S.res b hb
    refine ⟨h1, h2, h3, fun j tj e q n => ?_⟩
    rcases set_get q with ⟨rfl, e2, hl⟩ | ⟨ne, q⟩
    · rw [List.getElem?_set_self (by rw [← S.len]; exact hl)]
      have w := (S0.res b hb).1
      intro z
      cases z
      exact na w
    · rw [List.getElem?_set_ne (Ne.symm ne)]
      exact h4 j tj e q n
  · obtain ⟨t, e, h1, h2, h3⟩ := S.lkd p hp
    have ne := mayPut_no g (h1.elim (fun z => .inr (.inr z)) fun z => .inr (.inl z)) h2
    exact ⟨t, e, h1, by rw [List.getElem?_set_ne (Ne.symm ne)]; exact h2, by rw [List.getElem?_set_ne (Ne.symm ne)]; exact h3⟩
  · obtain ⟨t, e, h1, h2, h3⟩ := S.byr p hp
    have ne := mayPut_no g (h1.elim .inl fun z => .inr (.inl z)) h2
    exact ⟨t, e, h1, by rw [List.getElem?_set_ne (Ne.symm ne)]; exact h2, by rw [List.getElem?_set_ne (Ne.symm ne)]; exact h3⟩
/-- without the object at a -/
abbrev Zn.sub (Z : Zn) (a : Addr) : Zn := ⟨fun b => Z.M b ∧ b ≠ a, fun b => Z.W b ∧ b ≠ a⟩
theorem Ev.sub : Ev Z H (Z.sub a) H := ⟨fun _ _ _ e => e, fun _ z => .inl z.1, fun _ z => .inl z.1, fun _ z => z⟩
/-- an object of one's own is given away -/
theorem SR.freeze (S : SR K C Z m σ H) (e : m[i]? = some (some (.own, d))) : ∃ a, σ[i]? = some (some (.ref a)) ∧ SR K C (Z.sub a) (m.set i (some (.shr, d))) σ H ∧ Rep K H (Z.sub a).W (.ref a) d := by
  obtain ⟨a, h1, h2, h3, h4, h5, h6⟩ := S.own i .own d e (by decide)
  have h0 : C.H0 a = none := h5 (.inl rfl)
  have rep : Rep K H (Z.sub a).W (.ref a) d := h3.rep (fun b z => z.1) (fun z => z.2 rfl)
  have ks : Ks H Z.W H (Z.sub a).W := .sub fun b z => z.1
  refine ⟨a, h1, ⟨by rw [List.length_set, S.len], fun j e' q => ?_, fun j t e' q n => ?_, fun j k tj tk dj dk b q1 q2 n1 n2 s1 s2 => ?_, fun b z => ⟨S.base b z, ?_⟩, S.keep, fun b z => S.mr b z.1, fun b z => ⟨S.mw b z.1, z.2⟩, fun b z => S.wdom b z.1, S.w0d, S.r0, fun j tj e' b q n h => ?_, fun b hb => ?_, fun p hp => ?_, fun p hp => ?_⟩, rep⟩
  · rcases set_get q with ⟨rfl, e2, hl⟩ | ⟨ne, q⟩
    · cases e2
      exact ⟨_, h1, rep⟩
    · obtain ⟨u, q1, q2⟩ := S.shr j e' q
      exact ⟨u, q1, q2.ks ks⟩
  · rcases set_get q with ⟨rfl, e2, hl⟩ | ⟨ne, q⟩
    · cases e2; exact absurd rfl n
    · obtain ⟨u, q1, q2, q3, q4, q5⟩ := S.own j t e' q n
      have nu : u ≠ a := fun z => ne (S.inj j i t .own e' d a q e n (by decide) (by rw [← z]; exact q1) h1)
      exact ⟨u, q1, ⟨q2, nu⟩, q3.ks ks rfl, fun z => ⟨q4 z, nu⟩, q5⟩
  · rcases set_get q1 with ⟨rfl, e1, hl⟩ | ⟨ne1, q1⟩
    · cases e1; exact absurd rfl n1
    · rcases set_get q2 with ⟨rfl, e2, hl⟩ | ⟨ne2, q2⟩
      · cases e2; exact absurd rfl n2
      · exact S.inj j k tj tk dj dk b q1 q2 n1 n2 s1 s2
  · rintro rfl
    exact S.w0d b z h0
  · rcases set_get q with ⟨rfl, e2, hl⟩ | ⟨ne, q⟩
    · cases e2; rcases n with n | n <;> cases n
    · exact fun z => S.lck j tj e' b q n h z.1
  · obtain ⟨r1, r2, r3, r4⟩ := S.res b hb
    refine ⟨⟨r1, fun z => r4 i .own d e (by decide) (by rw [z]; exact h1)⟩, fun z => r2 z.1, r3, fun j tj e' q n => ?_⟩
    rcases set_get q with ⟨rfl, e2, hl⟩ | ⟨ne, q⟩
    · cases e2; exact absurd rfl n
    · exact r4 j tj e' q n
  · obtain ⟨t, e', q1, q2, q3⟩ := S.lkd p hp
    have ne : p.1 ≠ i := by
      intro z
      rw [z, e] at q2
      cases q2
      rcases q1 with q | q <;> cases q
    exact ⟨t, e', q1, by rw [List.getElem?_set_ne (Ne.symm ne)]; exact q2, q3⟩
  · obtain ⟨t, e', q1, q2, q3⟩ := S.byr p hp
    have ne : p.1 ≠ i := by
      intro z
      rw [z, e] at q2
      cases q2
      rcases q1 with q | q <;> cases q
    exact ⟨t, e', q1, by rw [List.getElem?_set_ne (Ne.symm ne)]; exact q2, q3⟩
/-- an object of one's own (or by reference) is written -/
theorem SR.write (S : SR K C Z m σ H) (e : m[i]? = some (some (t, d))) (ht : t = .own ∨ t = .byr) (h1 : σ[i]? = some (some (.ref a))) {o : HO} (ow : Own K (upd H a o) Z.W a d') :
    Ev Z H Z (upd H a o) ∧ SR K C Z (m.set i (some (t, d'))) σ (upd H a o) := by
  have nt : t ≠ .shr := by rcases ht with h | h <;> (rw [h]; decide)
  obtain ⟨a', h1', h2, h3, h4, h5⟩ := S.own i t d e nt
  rw [h1] at h1'
  cases h1'
  have hM := h4 ht
  obtain ⟨o0, ho⟩ := h3.there
  have up : ∀ b x, b ≠ a → H b = some x → upd H a o b = some x := fun b x n q => by rw [upd_ne n]; exact q
  have ev : Ev Z H Z (upd H a o) := ⟨fun b x n q => up b x (fun z => n (by rw [z]; exact hM)) q, fun _ z => .inl z, fun _ z => .inl z, fun b z q => by
    by_cases hb : b = a
    · rw [hb, upd_same] at q; cases q
    · rw [upd_ne hb] at q; exact z q⟩
  have ks := S.ks ev
  refine ⟨ev, by rw [List.length_set, S.len], fun j e' q => ?_, fun j tj e' q n => ?_, fun j k tj tk dj dk b q1 q2 n1 n2 s1 s2 => ?_, S.base, fun b x q n => ?_, S.mr, S.mw, fun b z => ev.d b (S.wdom b z), S.w0d, S.r0, fun j tj e' b q n h => ?_, fun b hb => ?_, fun p hp => ?_, fun p hp => ?_⟩
  · rcases set_get q with ⟨rfl, e2, hl⟩ | ⟨ne, q⟩
    · cases e2; exact absurd rfl nt
    · obtain ⟨u, q1, q2⟩ := S.shr j e' q
      exact ⟨u, q1, q2.ks ks⟩
  · rcases set_get q with ⟨rfl, e2, hl⟩ | ⟨ne, q⟩
    · cases e2
      exact ⟨a, h1, h2, ow, h4, h5⟩
    · obtain ⟨u, q1, q2, q3, q4, q5⟩ := S.own j tj e' q n
      have nu : u ≠ a := fun z => ne (S.inj j i tj t e' d a q e n nt (by rw [← z]; exact q1) h1)
      exact ⟨u, q1, q2, q3.ks ks (upd_ne nu), q4, q5⟩
  · have q1' : ∃ d1, m[j]? = some (some (tj, d1)) := by
      rcases set_get q1 with ⟨rfl, e1, hl⟩ | ⟨ne1, q1⟩
      · cases e1; exact ⟨d, e⟩
      · exact ⟨_, q1⟩
    have q2' : ∃ d1, m[k]? = some (some (tk, d1)) := by
      rcases set_get q2 with ⟨rfl, e1, hl⟩ | ⟨ne1, q2⟩
      · cases e1; exact ⟨d, e⟩
      · exact ⟨_, q2⟩
    obtain ⟨d1, q1'⟩ := q1'
    obtain ⟨d2, q2'⟩ := q2'
    exact S.inj j k tj tk d1 d2 b q1' q2' n1 n2 s1 s2
  · refine up b x (fun z => ?_) (S.keep b x q n)
    rcases S.mr a hM with r | r
    · exact n (by rw [z]; exact r)
    · rw [z, r] at q; cases q
  · rcases set_get q with ⟨rfl, e2, hl⟩ | ⟨ne, q⟩
    · cases e2; rcases ht with rfl | rfl <;> (rcases n with n | n <;> cases n)
    · exact S.lck j tj e' b q n h
  · obtain ⟨r1, r2, r3, r4⟩ := S.res b hb
    refine ⟨r1, r2, r3, fun j tj e' q n => ?_⟩
    rcases set_get q with ⟨rfl, e2, hl⟩ | ⟨ne, q⟩
    · cases e2
      exact r4 j t d e nt
    · exact r4 j tj e' q n
  · obtain ⟨t', e', q1, q2, q3⟩ := S.lkd p hp
    have hp1 : p.1 ≠ i := by
      intro z
      rw [z, e] at q2
      cases q2
      rcases ht with rfl | rfl <;> (rcases q1 with q | q <;> cases q)
    exact ⟨t', e', q1, by rw [List.getElem?_set_ne (Ne.symm hp1)]; exact q2, q3⟩
  · obtain ⟨t', e', q1, q2, q3⟩ := S.byr p hp
    by_cases hp1 : p.1 = i
    · rw [hp1, e] at q2
      cases q2
      exact ⟨t, d', q1, by rw [hp1, List.getElem?_set_self (lt_of_get e)], q3⟩
    · exact ⟨t', e', q1, by rw [List.getElem?_set_ne (Ne.symm hp1)]; exact q2, q3⟩

/-- the value is given away, if need be -/
theorem SR.force {p : P} {Hs : Hp} (S : SR K C Z m σ H) (r : RP1 K C Z m σ Hs H v p) (e : VL.force p m = some (d, m')) : ∃ Z', Ev Z H Z' H ∧ SR K C Z' m' σ H ∧ Rep K H Z'.W v d := by
  cases p with
  | val d' => cases e; exact ⟨Z, .refl, S, r⟩
  | fresh d' => cases e; exact ⟨Z, .refl, S, r.rp⟩
  | bor i =>
    have e : (match sl m i with
      | some (.shr, d) => some (d, m)
      | some (.own, d) => some (d, m.set i (some (.shr, d)))
      | _ => none) = some (d, m') := e
    split at e
    · rename_i d' em
      cases e
      obtain ⟨u, h1, h2⟩ := S.shr i d (sl_get em)
      have r' : σ[i]? = some (some v) := r
      rw [h1] at r'
      cases r'
      exact ⟨Z, .refl, S, h2⟩
    · rename_i d' em
      cases e
      obtain ⟨a, h1, h2, h3⟩ := S.freeze (sl_get em)
      have r' : σ[i]? = some (some v) := r
      rw [h1] at r'
      cases r'
      exact ⟨_, .sub, h2, h3⟩
    · cases e
/-- .. of one that stayed meanwhile -/
theorem SR.force' {p : P} (S : SR K C Z m σ H) (r : RP K H Z σ v p) (e : VL.force p m = some (d, m')) : ∃ Z', Ev Z H Z' H ∧ SR K C Z' m' σ H ∧ Rep K H Z'.W v d := by
  cases p with
  | val d' => cases e; exact ⟨Z, .refl, S, r⟩
  | fresh d' => cases e; exact ⟨Z, .refl, S, r⟩
  | bor i => exact S.force (p := .bor i) (Hs := H) r e
theorem SR.forces : ∀ {ps : List P} {vs : List V} {ds : List D} {m m' : MS} {Z : Zn}, SR K C Z m σ H → RPs K H Z σ vs ps → VL.forces ps m = some (ds, m') → ∃ Z', Ev Z H Z' H ∧ SR K C Z' m' σ H ∧ Reps K H Z'.W vs ds
  | [], _, _, _, _, Z, S, .nil, e => by cases e; exact ⟨Z, .refl, S, .nil⟩
  | p :: ps, _, ds, m, m', Z, S, .cons r t, e => by
    unfold VL.forces at e
    split at e
    · rename_i d m1 e1
      split at e
      · rename_i ds' m2 e2
        cases e
        obtain ⟨Z1, E1, S1, r1⟩ := S.force' r e1
        obtain ⟨Z2, E2, S2, r2⟩ := SR.forces S1 (RPs.ks (S.ks E1) t) e2
        exact ⟨Z2, E1.trans E2, S2, .cons (r1.ks (S1.ks E2)) r2⟩
      · cases e
    · cases e
end
end VL

set_option Elab.async false
set_option linter.all false
set_option maxRecDepth 100000
set_option autoImplicit false
/-! The value layer, part 8: rules for expressions. -/
namespace VL
open PySem PySem.Spec L2

/-! ### tests -/
def tOf (f : EF) : TF := fun m => match f m with
  | some (.val (.bl b), m') => some (b, m')
  | _ => none
section
variable {K : PySem.W.Frag} {σ : L2.St} {H : Hp} {f : EF} {Q : Bool → Hp → Prop}
theorem tT_of (h : tT K (tOf f) σ H Q) : tE K f σ H fun x H1 => ∃ c, x = .bl c ∧ Q c H1 := by
  obtain ⟨C, Z, m, b, m', S, e, k⟩ := h
  unfold tOf at e
  split at e
  · rename_i c m1 e1
    cases e
    exact ⟨C, Z, m, _, _, S, e1, fun v H' Z' E S' r => ⟨b, by cases (show Rep K H' Z'.W v (.bl b) from r); rfl, k H' Z' E S'⟩⟩
  · cases e
end
section
variable {X : Cx} {a b c e : Expr} {es : List Expr} {fa fb fc f : EF} {ta tb tc : TF} {pos : Pos}
theorem me_op {op : Operator} {g : D → D → Option P} (ho : OpR X (binaryOp op) (r2D X.K g)) (ha : ME X a fa) (hb : ME X b fb) : ME X (.BinOp a op b pos) (m2 g fa fb) := (pe_op ho ha hb).weak fun _ _ _ h => tE_m2 h
theorem me_un {op : UnaryOp} {g : D → Option P} (ho : UnR X (unaryOp op) (r1D X.K g)) (ha : ME X a fa) : ME X (.UnaryOp op a pos) (m1 g fa) := (pe_un ho ha).weak fun _ _ _ h => tE_m1 h
theorem me_cmp {op : CmpOp} {g : D → D → Option P} (ho : OpR X (compareOp op) (r2D X.K g)) (ha : ME X a fa) (hb : ME X b fb) (hm : behindInMarks op b = false := by first | exact nomark _ | rfl) : ME X (.Compare a [op] [b] pos) (m2 g fa fb) :=
  (pe_cmpR ho ha hb hm).weak fun _ _ _ h => tE_m2 h
theorem mt_cmp {op : CmpOp} {g : D → D → Option P} (ho : OpR X (compareOp op) (r2D X.K g)) (ha : ME X a fa) (hb : ME X b fb) (hm : behindInMarks op b = false := by first | exact nomark _ | rfl) : MT X (.Compare a [op] [b] pos) (tOf (m2 g fa fb)) :=
  (pt_cmpR ho ha hb hm).weak fun _ _ _ h => tE_m2 (tT_of h)
theorem mt_val (h : ME X e f) (he : ∀ whole, isTrue e X.env whole = (do let v ← whole; standAt e.pos; holding [v] (truthy v)) := by intro _; rfl) : MT X e (tOf f) :=
  (pt_val h he).weak fun _ _ _ q => tT_of q

/-! ### and, or, not, if -/
def bAnd (fa fb : EF) : EF := fun m => match fa m with
  | some (.val (.bl true), m1) => fb m1
  | some (.val (.bl false), m1) => some (.val (.bl false), m1)
  | _ => none
def bOr (fa fb : EF) : EF := fun m => match fa m with
  | some (.val (.bl true), m1) => some (.val (.bl true), m1)
  | some (.val (.bl false), m1) => fb m1
  | _ => none
def bNot (fa : EF) : EF := fun m => match fa m with
  | some (.val (.bl b), m1) => some (.val (.bl (!b)), m1)
  | _ => none
theorem rep_bl {K : PySem.W.Frag} {H : Hp} {W : AS} {v : V} {b : Bool} (r : Rep K H W v (.bl b)) : v = .bl b := by cases r; rfl
theorem me_one {op : BoolOp} (h : ME X a fa) : ME X (.BoolOp op [a] pos) fa := pe_one h
theorem me_and {rest : List Expr} (ha : ME X a fa) (hb : ME X (.BoolOp .And (b :: rest) pos) fb) : ME X (.BoolOp .And (a :: b :: rest) pos) (bAnd fa fb) :=
  (pe_and ha hb).weak fun σ H Q ⟨C, Z, m, p, m', S, e, k⟩ => by
    unfold bAnd at e
    split at e
    · rename_i m1 e1
      exact ⟨C, Z, m, _, _, S, e1, fun v H' Z' E S' r => ⟨true, rep_bl r, by
        refine iteT ?_
        exact ⟨C, Z', m1, p, m', S', e, fun v2 H2 Z2 E2 S2 r2 => k v2 H2 Z2 (E.trans E2) S2 (r2.back E)⟩⟩⟩
    · rename_i m1 e1
      cases e
      exact ⟨C, Z, m, _, _, S, e1, fun v H' Z' E S' r => ⟨false, rep_bl r, by
        refine iteF ?_
        exact k _ H' Z' E S' (.bl false)⟩⟩
    · cases e
theorem me_or {rest : List Expr} (ha : ME X a fa) (hb : ME X (.BoolOp .Or (b :: rest) pos) fb) : ME X (.BoolOp .Or (a :: b :: rest) pos) (bOr fa fb) :=
  (pe_or ha hb).weak fun σ H Q ⟨C, Z, m, p, m', S, e, k⟩ => by
    unfold bOr at e
    split at e
    · rename_i m1 e1
      cases e
      exact ⟨C, Z, m, _, _, S, e1, fun v H' Z' E S' r => ⟨true, rep_bl r, by
        refine iteT ?_
        exact k _ H' Z' E S' (.bl true)⟩⟩
    · rename_i m1 e1
      exact ⟨C, Z, m, _, _, S, e1, fun v H' Z' E S' r => ⟨false, rep_bl r, by
        refine iteF ?_
        exact ⟨C, Z', m1, p, m', S', e, fun v2 H2 Z2 E2 S2 r2 => k v2 H2 Z2 (E.trans E2) S2 (r2.back E)⟩⟩⟩
    · cases e
theorem me_not (ha : ME X a fa) : ME X (.UnaryOp .Not a pos) (bNot fa) :=
  (pe_not ha).weak fun σ H Q ⟨C, Z, m, p, m', S, e, k⟩ => by
    unfold bNot at e
    split at e
    · rename_i c m1 e1
      cases e
      exact ⟨C, Z, m, _, _, S, e1, fun v H' Z' E S' r => ⟨c, rep_bl r, k _ H' Z' E S' (.bl _)⟩⟩
    · cases e
/-- .. as tests -/
abbrev MW (X : Cx) (e : Expr) (f : TF) : Prop := PW X e (tT X.K f)
def qAnd (f g : TF) : TF := fun m => match f m with
  | some (true, m1) => g m1
  | some (false, m1) => some (false, m1)
  | none => none
def qOr (f g : TF) : TF := fun m => match f m with
  | some (true, m1) => some (true, m1)
  | some (false, m1) => g m1
  | none => none
def qNot (f : TF) : TF := fun m => match f m with
  | some (b, m1) => some (!b, m1)
  | none => none
theorem _root_.L2.PW.weak {t t' : TT} (h : PW X e t) (i : ∀ σ H Q, t' σ H Q → t σ H Q) : PW X e t' := ⟨fun w pins s σ H Q I q => h.run w pins s σ H Q I (i _ _ _ q)⟩
theorem mw_and1 (ha : MT X a ta) : MW X (.BoolOp .And [a] pos) ta := pw_and1 ha
theorem mw_or1 (ha : MT X a ta) : MW X (.BoolOp .Or [a] pos) ta := pw_or1 ha
theorem mw_and {rest : List Expr} (ha : MT X a ta) (hb : MW X (.BoolOp .And (b :: rest) pos) tb) : MW X (.BoolOp .And (a :: b :: rest) pos) (qAnd ta tb) :=
  (pw_and ha hb).weak fun σ H Q ⟨C, Z, m, p, m', S, e, k⟩ => by
    unfold qAnd at e
    split at e
    · rename_i m1 e1
      exact ⟨C, Z, m, _, _, S, e1, fun H' Z' E S' => by
        refine iteT ?_
        exact ⟨C, Z', m1, p, m', S', e, fun H2 Z2 E2 S2 => k H2 Z2 (E.trans E2) S2⟩⟩
    · rename_i m1 e1
      cases e
      exact ⟨C, Z, m, _, _, S, e1, fun H' Z' E S' => by
        refine iteF ?_
        exact k H' Z' E S'⟩
    · cases e
theorem mw_or {rest : List Expr} (ha : MT X a ta) (hb : MW X (.BoolOp .Or (b :: rest) pos) tb) : MW X (.BoolOp .Or (a :: b :: rest) pos) (qOr ta tb) :=
  (pw_or ha hb).weak fun σ H Q ⟨C, Z, m, p, m', S, e, k⟩ => by
    unfold qOr at e
    split at e
    · rename_i m1 e1
      cases e
      exact ⟨C, Z, m, _, _, S, e1, fun H' Z' E S' => by
        refine iteT ?_
        exact k H' Z' E S'⟩
    · rename_i m1 e1
      exact ⟨C, Z, m, _, _, S, e1, fun H' Z' E S' => by
        refine iteF ?_
        exact ⟨C, Z', m1, p, m', S', e, fun H2 Z2 E2 S2 => k H2 Z2 (E.trans E2) S2⟩⟩
    · cases e
theorem mt_w (h : MW X e ta) : MT X e ta := h.pt
theorem mt_not (ha : MT X a ta) : MT X (.UnaryOp .Not a pos) (qNot ta) :=
  (pt_not ha).weak fun σ H Q ⟨C, Z, m, p, m', S, e, k⟩ => by
    unfold qNot at e
    split at e
    · rename_i b m1 e1
      cases e
      exact ⟨C, Z, m, _, _, S, e1, k⟩
    · cases e
def mIf (t : TF) (fa fb : EF) : EF := fun m => match t m with
  | some (true, m1) => fa m1
  | some (false, m1) => fb m1
  | none => none
theorem me_if (hc : MT X c ta) (ha : ME X a fa) (hb : ME X b fb) : ME X (.IfExp c a b pos) (mIf ta fa fb) :=
  (pe_ifExp hc ha hb).weak fun σ H Q ⟨C, Z, m, p, m', S, e, k⟩ => by
    unfold mIf at e
    split at e
    · rename_i m1 e1
      exact ⟨C, Z, m, _, _, S, e1, fun H' Z' E S' => by
        refine iteT ?_
        exact ⟨C, Z', m1, p, m', S', e, fun v2 H2 Z2 E2 S2 r2 => k v2 H2 Z2 (E.trans E2) S2 (r2.back E)⟩⟩
    · rename_i m1 e1
      exact ⟨C, Z, m, _, _, S, e1, fun H' Z' E S' => by
        refine iteF ?_
        exact ⟨C, Z', m1, p, m', S', e, fun v2 H2 Z2 E2 S2 r2 => k v2 H2 Z2 (E.trans E2) S2 (r2.back E)⟩⟩
    · cases e

/-! ### a < b < c -/
def mChain (g h : D → D → Option P) (fa fb fc : EF) : EF := fun m =>
  match fa m with
  | some (p, n1) => match fb n1 with
    | some (q, n2) => match rd p n2, rd q n2 with
      | some x, some y => match g x y with
        | some (.val (.bl true)) => match fc n2 with
          | some (r, n3) => match rd q n3, rd r n3 with
            | some y', some z => match h y' z with
              | some o => some (o, n3)
              | none => none
            | _, _ => none
          | none => none
        | some (.val (.bl false)) => some (.val (.bl false), n2)
        | _ => none
      | _, _ => none
    | none => none
  | none => none
theorem tE_chain {K : PySem.W.Frag} {σ : L2.St} {H : Hp} {Q : VK} {g h : D → D → Option P} (q : tE K (mChain g h fa fb fc) σ H Q) : tChain (r2D K g) (r2D K h) (tE K fa) (tE K fb) (tE K fc) σ H Q := by
  obtain ⟨C, Z, m, p, m', S, e, k⟩ := q
  unfold mChain at e
  split at e
  · rename_i p1 n1 e1
    split at e
    · rename_i q1 n2 e2
      split at e
      · rename_i x y ex ey
        have mid : ∀ (b : Bool), g x y = some (.val (.bl b)) → (∀ (H2 : Hp) (Z2 : Zn) (y0 : V), Ev Z H Z2 H2 → SR K C Z2 n2 σ H2 → RP K H2 Z2 σ y0 q1 → if b = true then tE K fc σ H2 (fun w' H4 => r2D K h y0 w' H4 Q) else Q (.bl false) H2) →
            tChain (r2D K g) (r2D K h) (tE K fa) (tE K fb) (tE K fc) σ H Q := by
          intro b eb kk
          refine tE_two S e1 e2 fun u v H2 Z2 E2 S2 r1 r2 => ⟨Z2.W, x, y, _, S2.wdom, S2.rd r1 ex, S2.rd r2.rp ey, eb, fun w H' o => ?_⟩
          obtain ⟨E3, S3, r3⟩ := o.fin S2
          exact ⟨b, rep_bl r3, kk H' Z2 v (E2.trans E3) S3 (r2.rp.ks (S2.ks E3))⟩
        split at e
        · rename_i eb
          split at e
          · rename_i r n3 e3
            split at e
            · rename_i y' z ey' ez
              split at e
              · rename_i o eo
                cases e
                refine mid true eb fun H2 Z2 y0 E2 S2 r2 => ?_
                refine iteT ?_
                refine tE_one S2 e3 fun w H3 Z3 E3 S3 r3 => ⟨Z3.W, y', z, _, S3.wdom, S3.rd (r2.ks (S2.ks E3)) ey', S3.rd r3.rp ez, eo, fun v4 H4 o4 => ?_⟩
                obtain ⟨E4, S4, r4⟩ := o4.fin S3
                exact k v4 H4 Z3 ((E2.trans E3).trans E4) S4 (r4.back (E2.trans E3))
              · cases e
            · cases e
          · cases e
        · rename_i eb
          cases e
          refine mid false eb fun H2 Z2 y0 E2 S2 r2 => ?_
          refine iteF ?_
          exact k _ H2 Z2 E2 S2 (.bl false)
        · cases e
      · cases e
    · cases e
  · cases e
theorem me_chain {op op' : CmpOp} {g h : D → D → Option P} (ho : OpR X (compareOp op) (r2D X.K g)) (ho' : OpR X (compareOp op') (r2D X.K h)) (ha : ME X a fa) (hb : ME X b fb) (hc : ME X c fc)
    (hm : lastMarks [op, op'] [b, c] = false := by with_unfolding_all rfl) : ME X (.Compare a [op, op'] [b, c] pos) (mChain g h fa fb fc) := (pe_chain ho ho' ha hb hc hm).weak fun _ _ _ q => tE_chain q
theorem mt_chain {op op' : CmpOp} {g h : D → D → Option P} (ho : OpR X (compareOp op) (r2D X.K g)) (ho' : OpR X (compareOp op') (r2D X.K h)) (ha : ME X a fa) (hb : ME X b fb) (hc : ME X c fc)
    (hm : lastMarks [op, op'] [b, c] = false := by with_unfolding_all rfl) : MT X (.Compare a [op, op'] [b, c] pos) (tOf (mChain g h fa fb fc)) := (pt_chain ho ho' ha hb hc hm).weak fun _ _ _ q => tE_chain (tT_of q)

/-! ### subscripts, slices, displays -/
theorem me_ix (hu : X.A.units + 64 < cLine) (ha : ME X a fa) (hb : ME X b fb) (hs : PlainIx b := by exact fun _ _ => rfl) : ME X (.Subscript a b pos) (m2 dIx fa fb) := (pe_ix (ix_D hu) ha hb hs).weak fun _ _ _ h => tE_m2 h
abbrev OF := MS → Option (Option Int × MS)
def oN : OF := fun m => some (none, m)
def oS (f : EF) : OF := fun m => match f m with
  | some (.val (.int i), m1) => some (some i, m1)
  | _ => none
def tO (K : PySem.W.Frag) (f : OF) : TO := fun σ H Q => ∃ C Z m o m', SR K C Z m σ H ∧ f m = some (o, m') ∧ ∀ H' Z', Ev Z H Z' H' → SR K C Z' m' σ H' → Q o H'
abbrev MO (X : Cx) (e : Option Expr) (f : OF) : Prop := PO X e (tO X.K f)
theorem _root_.L2.PO.weak {o : Option Expr} {t t' : TO} (h : PO X o t) (i : ∀ σ H Q, t' σ H Q → t σ H Q) : PO X o t' := ⟨fun pins s σ H Q I q => h.run pins s σ H Q I (i _ _ _ q)⟩
theorem mo_none : MO X none oN := po_none.weak fun σ H Q ⟨C, Z, m, p, m', S, e, k⟩ => by
  cases e
  exact k _ _ .refl S
theorem mo_some (h : ME X e f) : MO X (some e) (oS f) := (po_some h).weak fun σ H Q ⟨C, Z, m, p, m', S, e, k⟩ => by
  unfold oS at e
  split at e
  · rename_i i m1 e1
    cases e
    exact ⟨C, Z, m, _, _, S, e1, fun v H' Z' E S' r => ⟨i, by cases (show Rep X.K H' Z'.W v (.int i) from r); rfl, k H' Z' E S'⟩⟩
  · cases e
def cutL {α : Type} (xs : List α) (lo hi : Option Int) : List α := (xs.drop (HT.sIx xs.length 0 lo)).take (HT.sIx xs.length xs.length hi - HT.sIx xs.length 0 lo)
def dCut (lo hi : Option Int) : D → Option P
  | .lst ds => some (.fresh (.lst (cutL ds lo hi)))
  | .tup ds => some (.val (.tup (cutL ds lo hi)))
  | .str z => if z.length ≤ sizeLine then some (.val (.str (cutS z lo hi))) else none
  | _ => none
def rSlD (K : PySem.W.Frag) : V → Option Int → Option Int → Hp → VK → Prop := fun x lo hi H Q => ∃ (W : AS) (dx : D) (r : P), (∀ b, W b → H b ≠ none) ∧ RdV K H W x dx ∧ dCut lo hi dx = some r ∧ ∀ v H', Out K H W v H' r → Q v H'
theorem reps_cut {K : PySem.W.Frag} {H : Hp} {W : AS} {vs : List V} {ds : List D} (r : Reps K H W vs ds) (lo hi : Option Int) : Reps K H W (cutV vs lo hi) (cutL ds lo hi) := by
  unfold cutV cutL
  rw [r.length]
  exact (r.drop _).take _
theorem cut_all {α : Type} {xs : List α} {lo hi : Option Int} (h : HT.sIx xs.length 0 lo = 0 ∧ HT.sIx xs.length xs.length hi = xs.length) : cutL xs lo hi = xs := by
  unfold cutL
  rw [h.1, h.2, List.drop_zero, Nat.sub_zero, List.take_length]
theorem sl_D : SlR X (rSlD X.K) := by
  intro pins s σ H x v vl vu lo hi sl Q I rx hs pl pu ⟨W, dx, r, wd, hx, e, k⟩
  unfold dCut at e
  split at e
  · cases e
    obtain ⟨a, vs, rfl, h1, r1⟩ := hx.lst
    exact sl_list pins s σ H _ v vl vu lo hi sl Q I rx hs pl pu ⟨a, vs, rfl, SqL.of h1, fun p hp => k _ _ (out_lst wd hp (reps_cut r1 lo hi))⟩
  · cases e
    rcases hx with hx | ⟨_, _, _, o⟩
    · cases hx with
      | @tup a vs ds n h1 r1 =>
        refine sl_tupF pins s σ H _ v vl vu lo hi sl Q I rx hs pl pu ⟨a, vs, rfl, h1.seq, fun w => ?_, fun _ p o ho hp => k _ _ (out_tup ho wd hp (reps_cut r1 lo hi))⟩
        rw [r1.length] at w
        exact k _ _ (out_at (by rw [cut_all w]; exact .tup n h1 r1))
    · exact o.elim
  · split at e
    · rename_i z hz
      cases e
      cases hx.str
      exact sl_str pins s σ H _ v vl vu lo hi sl Q I rx hs pl pu ⟨z, rfl, hz, k _ _ (out_at (.str _))⟩
    · cases e
  · cases e
def mCut (fe : EF) (fl fh : OF) : EF := fun m => match fe m with
  | some (p, n1) => match fl n1 with
    | some (lo, n2) => match fh n2 with
      | some (hi, n3) => match rd p n3 with
        | some x => match dCut lo hi x with
          | some r => some (r, n3)
          | none => none
        | none => none
      | none => none
    | none => none
  | none => none
theorem me_cut {lo hi : Option Expr} {fl fh : OF} {p2 : Pos} (he : ME X e f) (hl : MO X lo fl) (hh : MO X hi fh) : ME X (.Subscript e (.Slice lo hi none p2) pos) (mCut f fl fh) :=
  (pe_slice sl_D he hl hh).weak fun σ H Q ⟨C, Z, m, p, m', S, e, k⟩ => by
    unfold mCut at e
    split at e
    · rename_i p1 n1 e1
      split at e
      · rename_i lo n2 e2
        split at e
        · rename_i hi n3 e3
          split at e
          · rename_i x ex
            split at e
            · rename_i r er
              cases e
              exact tE_one S e1 fun u H1 Z1 E1 S1 r1 => ⟨C, Z1, n1, _, _, S1, e2, fun H2 Z2 E2 S2 => ⟨C, Z2, n2, _, _, S2, e3, fun H3 Z3 E3 S3 => ⟨Z3.W, x, _, S3.wdom, S3.rd ((r1.rp.ks (S1.ks E2)).ks (S2.ks E3)) ex, er, fun w H' o => by
                obtain ⟨E4, S4, r4⟩ := o.fin S3
                exact k w H' Z3 (((E1.trans E2).trans E3).trans E4) S4 (r4.back ((E1.trans E2).trans E3))⟩⟩⟩
            · cases e
          · cases e
        · cases e
      · cases e
    · cases e
def mTup (fs : AF) : EF := fun m => match fs m with
  | some (ps, m1) => match forces ps m1 with
    | some (ds, m2) => if ds.length ≤ sizeLine then some (.val (.tup ds), m2) else none
    | none => none
  | none => none
def mLst (fs : AF) : EF := fun m => match fs m with
  | some (ps, m1) => match forces ps m1 with
    | some (ds, m2) => if ds.length ≤ sizeLine then some (.fresh (.lst ds), m2) else none
    | none => none
  | none => none
theorem me_tup {fs : AF} {x1} (h : MA X es fs) : ME X (.Tuple es x1 pos) (mTup fs) := (pe_tupF h).weak fun σ H Q ⟨C, Z, m, p, m', S, e, k⟩ => by
  unfold mTup at e
  split at e
  · rename_i ps n1 e1
    split at e
    · rename_i ds n2 e2
      split at e
      · rename_i hz
        cases e
        refine ⟨C, Z, m, _, _, S, e1, fun vs H1 Z1 E1 S1 r1 => ?_⟩
        obtain ⟨Z2, E2, S2, r2⟩ := S1.forces r1 e2
        refine ⟨by rw [r2.length]; exact hz, fun p o ho hp => ?_⟩
        obtain ⟨E3, S3, r3⟩ := (out_tup ho S2.wdom hp r2).fin S2
        exact k _ _ Z2 ((E1.trans E2).trans E3) S3 (r3.back (E1.trans E2))
      · cases e
    · cases e
  · cases e
theorem me_lst {fs : AF} (h : MA X es fs) : ME X (.List es pos) (mLst fs) := (pe_lst h).weak fun σ H Q ⟨C, Z, m, p, m', S, e, k⟩ => by
  unfold mLst at e
  split at e
  · rename_i ps n1 e1
    split at e
    · rename_i ds n2 e2
      split at e
      · rename_i hz
        cases e
        refine ⟨C, Z, m, _, _, S, e1, fun vs H1 Z1 E1 S1 r1 => ?_⟩
        obtain ⟨Z2, E2, S2, r2⟩ := S1.forces r1 e2
        refine ⟨by rw [r2.length]; exact hz, fun p hp => ?_⟩
        obtain ⟨E3, S3, r3⟩ := (out_lst S2.wdom hp r2).fin S2
        exact k _ _ Z2 ((E1.trans E2).trans E3) S3 (r3.back (E1.trans E2))
      · cases e
    · cases e
  · cases e

/-! ### calls of built-ins; constants of the module -/
theorem me_callB {x : Str} {p : Pos} {id : String} {g : List D → Option P} {fs : AF} (hc : CallR X (.builtin id) (rnD X.K g)) (hg : Gl X x) (hm : X.mg x = none) (hv : bootBuiltins x = some (.builtin id)) (ha : MA X (e :: es) fs) (hn : x ≠ "__name__" := by decide) (hdb : (x == ("__debug__" : Str)) = false := by decide)
    (he : starEach (e :: es) X.env = (false, eval e X.env) :: starEach es X.env := by rfl) (hpl : (backTo pos (starEach es X.env)).any (·.1) = false := by rfl) : ME X (.Call (.Name x p) (e :: es) [] pos) (mn g fs) :=
  (pe_callB hc hg hm hv ha hn hdb he hpl).weak fun _ _ _ h => tE_mn h
theorem me_callT {x : Str} {p : Pos} {id : String} {g : List D → Option P} {fs : AF} (hc : CallR X (.type id) (rnD X.K g)) (hg : Gl X x) (hm : X.mg x = none) (hv : bootBuiltins x = some (.type id)) (ha : MA X (e :: es) fs) (hn : x ≠ "__name__" := by decide) (hdb : (x == ("__debug__" : Str)) = false := by decide)
    (he : starEach (e :: es) X.env = (false, eval e X.env) :: starEach es X.env := by rfl) (hpl : (backTo pos (starEach es X.env)).any (·.1) = false := by rfl) : ME X (.Call (.Name x p) (e :: es) [] pos) (mn g fs) :=
  (pe_callTy hc hg hm hv ha hn hdb he hpl).weak fun _ _ _ h => tE_mn h
theorem me_gInt {x : Str} {i : Int} {t : Tok} (hg : Gl X x) (hm : X.mg x = some (.int i t)) (hd : (x == ("__debug__" : Str)) = false := by decide) : ME X (.Name x pos) (mC (.int i)) := me_c (pe_glob hg hm (show RelV (.int i) (.int i t) from ⟨t, rfl⟩) hd) fun _ _ _ => .int i
theorem me_gStr {x : Str} {i : Str} {t : Tok} (hg : Gl X x) (hm : X.mg x = some (.str i t)) (hd : (x == ("__debug__" : Str)) = false := by decide) : ME X (.Name x pos) (mC (.str i)) := me_c (pe_glob hg hm (show RelV (.str i) (.str i t) from ⟨t, rfl⟩) hd) fun _ _ _ => .str i
theorem me_ty {x : Str} {n : String} (hg : Gl X x) (hm : X.mg x = none) (hv : bootBuiltins x = some (.type n)) (hn : x ≠ "__name__" := by decide) (hd : (x == ("__debug__" : Str)) = false := by decide) : ME X (.Name x pos) (mC (.ty n)) :=
  me_c (pe_bltn hg hm hv (show RelV (.ty n) (.type n) from rfl) hn hd) fun _ _ _ => .ty n
end
end VL

set_option Elab.async false
set_option linter.all false
set_option maxRecDepth 100000
set_option autoImplicit false
/-! The value layer, part 9: statements, targets, loops. -/
namespace VL
open PySem PySem.Spec L2

/-- how a statement ends -/
inductive Fl where
  | nx | rt (p : P) | bk | ct
abbrev SF := MS → Option (Fl × MS)
/-- what a def hands back -/
def RetV (K : PySem.W.Frag) (C : Ct) (H : Hp) (v : V) : P → Prop
  | .val d => Rep K H C.W0 v d
  | .fresh d => ∃ a, v = .ref a ∧ C.H0 a = none ∧ Own K H (fun b => b = a ∨ C.W0 b) a d
  | .bor _ => False
def EndsAs (K : PySem.W.Frag) (C : Ct) (D : Ends) (σ : L2.St) (H : Hp) : Fl → Prop
  | .nx => D.nx σ H
  | .bk => D.bk σ H
  | .ct => D.ct σ H
  | .rt p => ∀ v, RetV K C H v p → D.rt v H
def tS (K : PySem.W.Frag) (g : SF) : TS := fun D σ H => ∃ C Z m fl m', SR K C Z m σ H ∧ g m = some (fl, m') ∧ ∀ σ' H' Z', Ev Z H Z' H' → SR K C Z' m' σ' H' → EndsAs K C D σ' H' fl
abbrev MSt (X : Cx) (st : Stmt) (g : SF) : Prop := PS X st (tS X.K g)
abbrev MSs (X : Cx) (st : List Stmt) (g : SF) : Prop := PSs X st (tS X.K g)
theorem _root_.L2.PS.weak {X : Cx} {st : Stmt} {t t' : TS} (h : PS X st t) (i : ∀ D σ H, t' D σ H → t D σ H) : PS X st t' := ⟨fun pins s σ H D I q => h.run pins s σ H D I (i _ _ _ q)⟩
theorem _root_.L2.PSs.weak {X : Cx} {st : List Stmt} {t t' : TS} (h : PSs X st t) (i : ∀ D σ H, t' D σ H → t D σ H) : PSs X st t' := ⟨fun pins s σ H D I q => h.run pins s σ H D I (i _ _ _ q)⟩

def sNil : SF := fun m => some (.nx, m)
def sSeq (f g : SF) : SF := fun m => match f m with
  | some (.nx, m1) => g m1
  | r => r
section
variable {X : Cx} {st : Stmt} {sts : List Stmt} {e c : Expr} {fe : EF} {tc : TF} {f g : SF} {pos : Pos}
theorem mss_nil : MSs X [] sNil := pss_nil.weak fun D σ H ⟨C, Z, m, fl, m', S, e, k⟩ => by
  cases e
  exact k σ H Z .refl S
theorem mss_one (h : MSt X st f) : MSs X [st] f := pss_one h
theorem mss_cons (h : MSt X st f) (hs : MSs X sts g) : MSs X (st :: sts) (sSeq f g) := (pss_cons h hs).weak fun D σ H ⟨C, Z, m, fl, m', S, e, k⟩ => by
  unfold sSeq at e
  split at e
  · rename_i m1 e1
    exact ⟨C, Z, m, _, _, S, e1, fun σ1 H1 Z1 E1 S1 => ⟨C, Z1, m1, fl, m', S1, e, fun σ2 H2 Z2 E2 S2 => k σ2 H2 Z2 (E1.trans E2) S2⟩⟩
  · rename_i e1
    refine ⟨C, Z, m, fl, m', S, e, fun σ1 H1 Z1 E1 S1 => ?_⟩
    have q := k σ1 H1 Z1 E1 S1
    cases fl with
    | nx => exact absurd e (e1 _)
    | rt p => exact q
    | bk => exact q
    | ct => exact q
def sPass : SF := fun m => some (.nx, m)
def sBreak : SF := fun m => some (.bk, m)
def sCont : SF := fun m => some (.ct, m)
theorem ms_pass : MSt X (.Pass pos) sPass := ps_pass.weak fun D σ H ⟨C, Z, m, fl, m', S, e, k⟩ => by
  cases e
  exact k σ H Z .refl S
theorem ms_break : MSt X (.Break pos) sBreak := ps_break.weak fun D σ H ⟨C, Z, m, fl, m', S, e, k⟩ => by
  cases e
  exact k σ H Z .refl S
theorem ms_cont : MSt X (.Continue pos) sCont := ps_continue.weak fun D σ H ⟨C, Z, m, fl, m', S, e, k⟩ => by
  cases e
  exact k σ H Z .refl S
def sExpr (f : EF) : SF := fun m => match f m with
  | some (_, m1) => some (.nx, m1)
  | none => none
theorem ms_expr (he : ME X e fe) (hs : swapsWith e none pos.line X.env = pure false := by rfl) : MSt X (.Expr e pos) (sExpr fe) := (ps_expr he hs).weak fun D σ H ⟨C, Z, m, fl, m', S, e, k⟩ => by
  unfold sExpr at e
  split at e
  · rename_i p m1 e1
    cases e
    exact tE_one S e1 fun v H1 Z1 E1 S1 _ => k σ H1 Z1 E1 S1
  · cases e
/-- what a def may hand back: data, or an object of its own -/
@[simp] def retP : P → MS → Option P
  | .val d, _ => some (.val d)
  | .fresh d, _ => some (.fresh d)
  | .bor i, m => match sl m i with
    | some (.shr, d) => some (.val d)
    | some (.own, d) => some (.fresh d)
    | _ => none
def sRet (f : EF) : SF := fun m => match f m with
  | some (p, m1) => match retP p m1 with
    | some q => some (.rt q, m1)
    | none => none
  | none => none
theorem ret_ok {K : PySem.W.Frag} {C : Ct} {Z : Zn} {m : MS} {σ : L2.St} {Hs H : Hp} {v : V} {p q : P} (S : SR K C Z m σ H) (r : RP1 K C Z m σ Hs H v p) (e : retP p m = some q) : RetV K C H v q := by
  cases p with
  | val d => cases e; exact Rep.ks (.sub S.base) r
  | fresh d =>
    cases e
    obtain ⟨a, rfl, n, _, h0, _, o⟩ := r
    exact ⟨a, rfl, h0, o.ks (.sub fun b z => z.imp id (S.base b)) rfl⟩
  | bor i =>
    have e : (match sl m i with
      | some (.shr, d) => some (.val d)
      | some (.own, d) => some (.fresh d)
      | _ => none) = some q := e
    split at e
    · rename_i d em
      cases e
      obtain ⟨u, h1, h2⟩ := S.shr i d (sl_get em)
      have r' : σ[i]? = some (some v) := r
      rw [h1] at r'
      cases r'
      exact Rep.ks (.sub S.base) h2
    · rename_i d em
      cases e
      obtain ⟨a, h1, h2, h3, h4, h5, _⟩ := S.own i .own d (sl_get em) (by decide)
      have r' : σ[i]? = some (some v) := r
      rw [h1] at r'
      cases r'
      exact ⟨a, rfl, h5 (.inl rfl), h3.ks (.sub fun b z => z.elim (fun e => by rw [e]; exact h2) (S.base b)) rfl⟩
    · cases e
theorem ms_ret (he : ME X e fe) : MSt X (.Return (some e) pos) (sRet fe) := (ps_ret he).weak fun D σ H ⟨C, Z, m, fl, m', S, e, k⟩ => by
  unfold sRet at e
  split at e
  · rename_i p m1 e1
    split at e
    · rename_i q eq
      cases e
      exact tE_one S e1 fun v H1 Z1 E1 S1 r1 => k σ H1 Z1 E1 S1 v (ret_ok S1 r1 eq)
    · cases e
  · cases e
def sRetN : SF := fun m => some (.rt (.val .non), m)
theorem ms_retN : MSt X (.Return none pos) sRetN := ps_retN.weak fun D σ H ⟨C, Z, m, fl, m', S, e, k⟩ => by
  cases e
  exact k σ H Z .refl S .non .non
def sIf (t : TF) (f g : SF) : SF := fun m => match t m with
  | some (true, m1) => f m1
  | some (false, m1) => g m1
  | none => none
theorem ms_if {a b : List Stmt} (hc : MT X c tc) (ha : MSs X a f) (hb : MSs X b g) : MSt X (.If c a b pos) (sIf tc f g) := (ps_if hc ha hb).weak fun D σ H ⟨C, Z, m, fl, m', S, e, k⟩ => by
  unfold sIf at e
  split at e
  · rename_i m1 e1
    exact ⟨C, Z, m, _, _, S, e1, fun H1 Z1 E1 S1 => iteT ⟨C, Z1, m1, fl, m', S1, e, fun σ2 H2 Z2 E2 S2 => k σ2 H2 Z2 (E1.trans E2) S2⟩⟩
  · rename_i m1 e1
    exact ⟨C, Z, m, _, _, S, e1, fun H1 Z1 E1 S1 => iteF ⟨C, Z1, m1, fl, m', S1, e, fun σ2 H2 Z2 E2 S2 => k σ2 H2 Z2 (E1.trans E2) S2⟩⟩
  · cases e

/-! ### stores at names -/
/-- the state behind name = value; own: a new object is kept as one's own -/
@[simp] def putIn (i : Nat) (own : Bool) (p : P) (m : MS) : Option MS := if mayPut m i then (match own, p with
    | true, .fresh d => some (m.set i (some (.own, d)))
    | _, p => match force p m with
      | some (d, m2) => if mayPut m2 i then some (m2.set i (some (.shr, d))) else none
      | none => none) else none
theorem put_ok {K : PySem.W.Frag} {C : Ct} {Z Zs : Zn} {m m' : MS} {σ : L2.St} {Hs H : Hp} {v : V} {p : P} {i : Nat} {own : Bool} (E : Ev Zs Hs Z H) (S : SR K C Z m σ H) (r : RP1 K C Z m σ Hs H v p)
    (e : putIn i own p m = some m') : ∃ Z', Ev Zs Hs Z' H ∧ SR K C Z' m' (σ.set i (some v)) H := by
  unfold putIn at e
  split at e
  · rename_i g
    split at e
    · rename_i d
      cases e
      obtain ⟨a, rfl, n, hs, h0, S1, o⟩ := r
      exact ⟨Z.add a, ⟨E.h, fun b z => z.elim (fun q => .inr (by rw [q]; exact hs)) (E.m b), fun b z => z.elim (fun q => .inr (by rw [q]; exact hs)) (E.w b), E.d⟩, S.putOwn S1 g n h0 o⟩
    · split at e
      · rename_i d m2 e2
        split at e
        · rename_i g2
          cases e
          obtain ⟨Z1, E1, S1, r1⟩ := S.force r e2
          exact ⟨Z1, E.trans E1, S1.putShr g2 r1⟩
        · cases e
      · cases e
  · cases e
def sSet (i : Nat) (own : Bool) (f : EF) : SF := fun m => match f m with
  | some (p, m1) => match putIn i own p m1 with
    | some m2 => some (.nx, m2)
    | none => none
  | none => none
theorem tS_set {K : PySem.W.Frag} {fe : EF} {i : Nat} {own : Bool} {D : Ends} {σ : L2.St} {H : Hp} (h : tS K (sSet i own fe) D σ H) : tAsg (tE K fe) (gName i) D σ H := by
  obtain ⟨C, Z, m, fl, m', S, e, k⟩ := h
  unfold sSet at e
  split at e
  · rename_i p m1 e1
    split at e
    · rename_i m2 e2
      cases e
      refine tE_one S e1 fun v H1 Z1 E1 S1 r1 => ?_
      obtain ⟨Z2, E2, S2⟩ := put_ok E1 S1 r1 e2
      exact k _ H1 Z2 E2 S2
    · cases e
  · cases e
theorem ms_set {i : Nat} {own : Bool} {x : Str} {pos' : Pos} (hN : X.N.Nodup) (hi : X.N[i]? = some x) (hx : Loc X.env.scope x) (he : ME X e fe) (hs : swapsWith e (some (.Name x pos')) pos.line X.env = pure false := by rfl)
    (hf : X.fn x = true ∨ X.env.scope.names.lookup x = some .local := by first | exact .inl rfl | exact .inr rfl | assumption) : MSt X (.Assign [.Name x pos'] e pos) (sSet i own fe) := (ps_set hN hi hx he hs hf).weak fun D σ H h => tS_set h

/-! ### targets -/
abbrev GF := D → MS → Option MS
abbrev GsF := List D → MS → Option MS
/-- ts: the slots that are stored -/
def tG (K : PySem.W.Frag) (ts : List Nat) (g : GF) : TG := fun v σ H Q => ∃ C Z m d m', SR K C Z m σ H ∧ Rep K H Z.W v d ∧ g d m = some m' ∧ ∀ σ' H' Z', Ev Z H Z' H' → SR K C Z' m' σ' H' → (∀ vs : List Nat, (∀ i ∈ ts, i ∈ vs) → wipe σ' vs = wipe σ vs) → Q σ' H'
def tGs (K : PySem.W.Frag) (ts : List Nat) (g : GsF) : TGs := fun vs σ H Q => ∃ C Z m ds m', SR K C Z m σ H ∧ Reps K H Z.W vs ds ∧ g ds m = some m' ∧ ∀ σ' H' Z', Ev Z H Z' H' → SR K C Z' m' σ' H' → (∀ vs : List Nat, (∀ i ∈ ts, i ∈ vs) → wipe σ' vs = wipe σ vs) → Q σ' H'
abbrev MG (X : Cx) (tg : Expr) (ts : List Nat) (g : GF) : Prop := PG X tg (tG X.K ts g)
abbrev MGs (X : Cx) (tgs : List Expr) (ts : List Nat) (g : GsF) : Prop := PGs X tgs (tGs X.K ts g)
theorem _root_.L2.PG.weak {tg : Expr} {t t' : TG} (h : PG X tg t) (i : ∀ v σ H Q, t' v σ H Q → t v σ H Q) : PG X tg t' := ⟨fun pins s σ H v u Q I r q => h.run pins s σ H v u Q I r (i _ _ _ _ q)⟩
theorem _root_.L2.PGs.weak {tg : List Expr} {t t' : TGs} (h : PGs X tg t) (i : ∀ v σ H Q, t' v σ H Q → t v σ H Q) : PGs X tg t' := ⟨fun pins s σ H v u Q I r q => h.run pins s σ H v u Q I r (i _ _ _ _ q)⟩
theorem _root_.L2.PG.or {tg : Expr} {t t' : TG} (h : PG X tg t) (h' : PG X tg t') : PG X tg (fun v σ H Q => t v σ H Q ∨ t' v σ H Q) := ⟨fun pins s σ H v u Q I r q => q.elim (h.run pins s σ H v u Q I r) (h'.run pins s σ H v u Q I r)⟩
theorem wipe_set {σ : L2.St} {i : Nat} {x : Option V} : ∀ {vs : List Nat}, i ∈ vs → wipe (σ.set i x) vs = wipe σ vs := by
  have outer : ∀ (vs : List Nat) (σ : L2.St) (i : Nat) (x : Option V), wipe (σ.set i x) vs = wipe σ vs ∨ wipe (σ.set i x) vs = (wipe σ vs).set i x := by
    intro vs
    induction vs with
    | nil => intro σ i x; exact .inr rfl
    | cons v vs ih =>
      intro σ i x
      unfold wipe
      rcases ih σ i x with e | e
      · rw [e]; exact .inl rfl
      · rw [e]
        by_cases hv : v = i
        · subst hv; rw [List.set_set]; exact .inl rfl
        · rw [List.set_comm _ _ (Ne.symm hv)]; exact .inr rfl
  intro vs
  induction vs with
  | nil => intro h; cases h
  | cons v vs ih =>
    intro h
    unfold wipe
    rcases List.mem_cons.mp h with rfl | h
    · rcases outer vs σ i x with e | e
      · rw [e]
      · rw [e, List.set_set]
    · rw [ih h]
def gN (i : Nat) : GF := fun d m => if mayPut m i then some (m.set i (some (.shr, d))) else none
theorem mg_name {i : Nat} {x : Str} (hN : X.N.Nodup) (hi : X.N[i]? = some x) (hx : Loc X.env.scope x) (hf : X.fn x = true ∨ X.env.scope.names.lookup x = some .local := by first | exact .inl rfl | exact .inr rfl | assumption) : MG X (.Name x pos) [i] (gN i) :=
  (pg_name hN hi hx hf).weak fun v σ H Q ⟨C, Z, m, d, m', S, r, e, k⟩ => by
    unfold gN at e
    split at e
    · rename_i g
      cases e
      exact k _ H Z .refl (S.putShr g r) fun vs hv => wipe_set (hv i (by simp))
    · cases e
def gsN : GsF := fun ds m => match ds with
  | [] => some m
  | _ => none
def gsC (g : GF) (gs : GsF) : GsF := fun ds m => match ds with
  | d :: ds => match g d m with
    | some m1 => gs ds m1
    | none => none
  | [] => none
theorem mgs_nil : MGs X [] [] gsN := pgs_nil.weak fun vs σ H Q ⟨C, Z, m, ds, m', S, r, e, k⟩ => by
  cases r with
  | nil => cases e; exact ⟨rfl, k σ H Z .refl S fun _ _ => rfl⟩
  | cons _ _ => cases e
theorem mgs_cons {tg : Expr} {tgs : List Expr} {ts us : List Nat} {g : GF} {gs : GsF} (h1 : MG X tg ts g) (h2 : MGs X tgs us gs) (hs : (assignEach (tg :: tgs) X.env).map (·.2) = assign tg X.env :: (assignEach tgs X.env).map (·.2) := by rfl) : MGs X (tg :: tgs) (ts ++ us) (gsC g gs) :=
  (pgs_cons h1 h2 hs).weak fun vs σ H Q ⟨C, Z, m, ds, m', S, r, e, k⟩ => by
    cases r with
    | nil => cases e
    | @cons v d vs ds r t =>
      unfold gsC at e
      split at e
      · rename_i d' ds' q
        cases q
        split at e
        · rename_i m1 e1
          exact ⟨v, vs, rfl, C, Z, m, d, m1, S, r, e1, fun σ1 H1 Z1 E1 S1 w1 => ⟨C, Z1, m1, ds, m', S1, t.ks (S.ks E1), e, fun σ2 H2 Z2 E2 S2 w2 => k σ2 H2 Z2 (E1.trans E2) S2 fun vs hv =>
            (w2 vs fun i hi => hv i (List.mem_append_right _ hi)).trans (w1 vs fun i hi => hv i (List.mem_append_left _ hi))⟩⟩
        · cases e
      · rename_i q; cases q
def gT (n : Nat) (gs : GsF) : GF := fun d m => match d with
  | .tup ds => if ds.length = n then gs ds m else none
  | .lst ds => if ds.length = n then gs ds m else none
  | _ => none
theorem mg_tup {tgs : List Expr} {kk : Nat} {ts : List Nat} {gs : GsF} {n : Nat} (hc : X.calm = true) (h : MGs X tgs ts gs) (hn : (assignEach tgs X.env).length = n := by rfl) (hst : (assignEach tgs X.env).findIdx? (·.1) = none := by rfl) : MG X (.Tuple tgs kk pos) ts (gT n gs) :=
  ((pg_tup hc h hn hst).or (pg_unl hc h hn hst)).weak fun v σ H Q ⟨C, Z, m, d, m', S, r, e, k⟩ => by
    unfold gT at e
    split at e
    · split at e
      · rename_i ds hl
        cases r with
        | tup nw h1 r1 => exact .inl ⟨_, _, rfl, h1.seq, by rw [r1.length]; exact hl, C, Z, m, _, m', S, r1, e, k⟩
      · cases e
    · split at e
      · rename_i ds hl
        cases r with
        | lst nw h1 r1 => exact .inr ⟨_, _, rfl, SqL.of h1, by rw [r1.length]; exact hl, C, Z, m, _, m', S, r1, e, k⟩
      · cases e
    · cases e
/-- target = e -/
def sAsg (g : GF) (f : EF) : SF := fun m => match f m with
  | some (p, m1) => match force p m1 with
    | some (d, m2) => match g d m2 with
      | some m3 => some (.nx, m3)
      | none => none
    | none => none
  | none => none
theorem ms_asg {tg : Expr} {ts : List Nat} {g : GF} (he : ME X e fe) (hg : MG X tg ts g) (hs : swapsWithSole [tg] e pos.line X.env = pure false := by rfl) (hw : swappedStores [tg] e X.env = pure none := by rfl)
    (h1 : (assignEach [tg] X.env).map (·.2) = [assign tg X.env] := by rfl) : MSt X (.Assign [tg] e pos) (sAsg g fe) := (ps_asg he hg hs hw h1).weak fun D σ H ⟨C, Z, m, fl, m', S, e, k⟩ => by
  unfold sAsg at e
  split at e
  · rename_i p m1 e1
    split at e
    · rename_i d m2 e2
      split at e
      · rename_i m3 e3
        cases e
        refine tE_one S e1 fun v H1 Z1 E1 S1 r1 => ?_
        obtain ⟨Z2, E2, S2, r2⟩ := S1.force r1 e2
        exact ⟨C, Z2, m2, d, m', S2, r2, e3, fun σ3 H3 Z3 E3 S3 _ => k σ3 H3 Z3 ((E1.trans E2).trans E3) S3⟩
      · cases e
    · cases e
  · cases e

/-! ### what is walked -/
/-- the data, the state, the slot that is locked meanwhile -/
abbrev IF := MS → Option (List D × MS × Option Nat)
def ItOk (K : PySem.W.Frag) (J : It) (ds : List D) (H : Hp) (Z : Zn) : Prop := ∀ H2 Z2, Ev Z H Z2 H2 → (∀ b, Z2.W b → H2 b ≠ none) → ∀ i, (∀ d, ds[i]? = some d → J.go i H2 ∧ ∀ x H3, J.yld i H2 x H3 → H3 = H2 ∧ Rep K H2 Z2.W x d) ∧ (ds.length ≤ i → J.stop i H2)
/-- the slot that is locked meanwhile -/
def BkOk (C : Ct) (Z : Zn) (H : Hp) (m : MS) (σ : L2.St) : Option Nat → Prop
  | none => True
  | some i => (∀ p ∈ C.lks, p.1 ≠ i) ∧ ∃ a t d, σ[i]? = some (some (.ref a)) ∧ m[i]? = some (some (t, d)) ∧ (t = .lkO ∨ t = .lkB) ∧ (Z.M a ∨ H a = none)
def tI (K : PySem.W.Frag) (f : IF) : TI := fun σ H R => ∃ C Z m ds m' bk, SR K C Z m σ H ∧ f m = some (ds, m', bk) ∧ ∀ J H' Z', Ev Z H Z' H' → SR K C Z' m' σ H' → ItOk K J ds H' Z' → BkOk C Z H m' σ bk → R J H'
abbrev MI (X : Cx) (tg it : Expr) (f : IF) : Prop := PI X tg it (tI X.K f)
theorem _root_.L2.PI.weak {tg it : Expr} {t t' : TI} (h : PI X tg it t) (i : ∀ σ H R, t' σ H R → t σ H R) : PI X tg it t' := ⟨fun pins s σ H R I q => h.run pins s σ H R I (i _ _ _ q)⟩
theorem _root_.L2.PI.or {tg it : Expr} {t t' : TI} (h : PI X tg it t) (h' : PI X tg it t') : PI X tg it (fun σ H R => t σ H R ∨ t' σ H R) := ⟨fun pins s σ H R I q => q.elim (h.run pins s σ H R I) (h'.run pins s σ H R I)⟩
/-- lo, lo + c, .. -/
def rangeD (lo c : Int) (n : Nat) : List D := (List.range n).map fun i => .int (lo + (i : Nat) * c)
theorem rangeD_len (lo c : Int) (n : Nat) : (rangeD lo c n).length = n := by unfold rangeD; rw [List.length_map, List.length_range]
theorem rangeD_get {lo c : Int} {n i : Nat} {d : D} (h : (rangeD lo c n)[i]? = some d) : i < n ∧ d = .int (lo + (i : Nat) * c) := by
  have hi := lt_of_get h
  rw [rangeD_len] at hi
  unfold rangeD at h
  rw [List.getElem?_map, List.getElem?_range hi] at h
  cases h
  exact ⟨hi, rfl⟩
def iR1 (fs : AF) : IF := fun m => match fs m with
  | some ([p], m1) => match rd p m1 with
    | some (.int j) => if -(2 ^ 62) ≤ j ∧ j < 2 ^ 62 then some (rangeD 0 1 j.toNat, m1, none) else none
    | _ => none
  | _ => none
def iR2 (fs : AF) : IF := fun m => match fs m with
  | some ([p, q], m1) => match rd p m1, rd q m1 with
    | some (.int i), some (.int j) => if -(2 ^ 62) ≤ i ∧ i < 2 ^ 62 ∧ -(2 ^ 62) ≤ j ∧ j < 2 ^ 62 then some (rangeD i 1 (j - i).toNat, m1, none) else none
    | _, _ => none
  | _ => none
theorem itr_ok {K : PySem.W.Frag} {lo : Int} {n : Nat} {H : Hp} {Z : Zn} : ItOk K (Itr lo n) (rangeD lo 1 n) H Z := fun H2 Z2 _ _ i => ⟨fun d e => by
  obtain ⟨h1, rfl⟩ := rangeD_get e
  refine ⟨h1, fun x H3 y => ?_⟩
  obtain ⟨rfl, rfl⟩ := y
  refine ⟨rfl, ?_⟩
  rw [Int.mul_one]
  exact .int _, fun h => by rw [rangeD_len] at h; exact h⟩
theorem rps1 {K : PySem.W.Frag} {H : Hp} {Z : Zn} {σ : L2.St} {vs : List V} {p : P} (r : RPs K H Z σ vs [p]) : ∃ v, vs = [v] ∧ RP K H Z σ v p := by
  cases r with
  | cons r t => cases t; exact ⟨_, rfl, r⟩
theorem rps2 {K : PySem.W.Frag} {H : Hp} {Z : Zn} {σ : L2.St} {vs : List V} {p q : P} (r : RPs K H Z σ vs [p, q]) : ∃ v u, vs = [v, u] ∧ RP K H Z σ v p ∧ RP K H Z σ u q := by
  cases r with
  | cons r t => cases t with
    | cons r2 t => cases t; exact ⟨_, _, rfl, r, r2⟩
theorem mi_range1 {tg a : Expr} {fs : AF} {p : Pos} (hg : Gl X "range") (hm : X.mg "range" = none) (ha : MA X [a] fs) (hs : starEach [a] X.env = [(false, eval a X.env)] := by rfl) : MI X tg (.Call (.Name "range" p) [a] [] pos) (iR1 fs) :=
  (pi_range1 hg hm ha hs).weak fun σ H R ⟨C, Z, m, ds, m', bk, S, e, k⟩ => by
    unfold iR1 at e
    split at e
    · rename_i q m1 e1
      split at e
      · rename_i j ej
        split at e
        · rename_i hj
          cases e
          refine ⟨C, Z, m, _, _, S, e1, fun vs H1 Z1 E1 S1 r1 => ?_⟩
          obtain ⟨v, rfl, r⟩ := rps1 r1
          cases (S1.rd r ej).int
          exact ⟨j, rfl, hj.1, hj.2, k _ H1 Z1 E1 S1 itr_ok trivial⟩
        · cases e
      · cases e
    · cases e
theorem mi_range2 {tg a b : Expr} {fs : AF} {p : Pos} (hg : Gl X "range") (hm : X.mg "range" = none) (ha : MA X [a, b] fs) (hs : starEach [a, b] X.env = [(false, eval a X.env), (false, eval b X.env)] := by rfl) (hs2 : starEach [b] X.env = [(false, eval b X.env)] := by rfl) : MI X tg (.Call (.Name "range" p) [a, b] [] pos) (iR2 fs) :=
  (pi_range2 hg hm ha hs hs2).weak fun σ H R ⟨C, Z, m, ds, m', bk, S, e, k⟩ => by
    unfold iR2 at e
    split at e
    · rename_i q1 q2 m1 e1
      split at e
      · rename_i i j ei ej
        split at e
        · rename_i hj
          cases e
          refine ⟨C, Z, m, _, _, S, e1, fun vs H1 Z1 E1 S1 r1 => ?_⟩
          obtain ⟨v, u, rfl, r, r'⟩ := rps2 r1
          cases (S1.rd r ei).int
          cases (S1.rd r' ej).int
          exact ⟨i, j, rfl, hj, k _ H1 Z1 E1 S1 itr_ok trivial⟩
        · cases e
      · cases e
    · cases e
/-- a list, a tuple, a text; a list of one's own is locked -/
def strD (z : Str) : List D := z.cps.toList.map fun c => .str ⟨#[c]⟩
def iSeq (f : EF) : IF := fun m => match f m with
  | some (.val (.lst ds), m1) => some (ds, m1, none)
  | some (.val (.tup ds), m1) => some (ds, m1, none)
  | some (.val (.frz ds), m1) => some (ds, m1, none)
  | some (.val (.str z), m1) => some (strD z, m1, none)
  | some (.fresh (.lst ds), m1) => some (ds, m1, none)
  | some (.bor i, m1) => match sl m1 i with
    | some (.shr, .lst ds) => some (ds, m1, none)
    | some (.lkO, .lst ds) => some (ds, m1, none)
    | some (.lkB, .lst ds) => some (ds, m1, none)
    | some (.own, .lst ds) => some (ds, m1.set i (some (.lkO, .lst ds)), some i)
    | some (.byr, .lst ds) => some (ds, m1.set i (some (.lkB, .lst ds)), some i)
    | _ => none
  | _ => none
theorem itl_ok {K : PySem.W.Frag} {H : Hp} {Z : Zn} {a : Addr} {vs : List V} {ds : List D} (st : ∀ H2 Z2, Ev Z H Z2 H2 → SqL K H2 a vs) (mw : ∀ b, Z.M b → Z.W b) (r : Reps K H Z.W vs ds) : ItOk K (Itl K a) ds H Z := fun H2 Z2 E _ i => by
  have q := st H2 Z2 E
  have r2 := r.ks (E.ks mw)
  refine ⟨fun d e => ?_, fun hl => ⟨vs, q, by rw [r.length]; exact hl⟩⟩
  obtain ⟨v, h1, h2⟩ := r2.get e
  refine ⟨⟨vs, v, q, h1⟩, fun x H3 y => ?_⟩
  obtain ⟨rfl, y⟩ := y
  refine ⟨rfl, ?_⟩
  have := (y vs q).symm.trans h1
  cases this
  exact h2
theorem ev_lst {K : PySem.W.Frag} {H H2 : Hp} {Z Z2 : Zn} {a : Addr} {vs : List V} (n : ¬ Z.M a) (h : H a = some (.lst vs)) (E : Ev Z H Z2 H2) : SqL K H2 a vs := SqL.of (E.h a _ n h)
theorem itt_ok {K : PySem.W.Frag} {H : Hp} {Z : Zn} {a : Addr} {vs : List V} {ds : List D} (n : ¬ Z.M a) (h : TupAt H a vs) (mw : ∀ b, Z.M b → Z.W b) (r : Reps K H Z.W vs ds) : ItOk K (Itt K a) ds H Z := fun H2 Z2 E _ i => by
  have q : SqT K H2 a vs := by obtain ⟨o, h, d⟩ := h; exact TupAt.seq ⟨o, E.h a _ n h, d⟩
  have r2 := r.ks (E.ks mw)
  refine ⟨fun d e => ?_, fun hl => ⟨vs, q, by rw [r.length]; exact hl⟩⟩
  obtain ⟨v, h1, h2⟩ := r2.get e
  refine ⟨⟨vs, v, q, h1⟩, fun x H3 y => ?_⟩
  obtain ⟨rfl, y⟩ := y
  refine ⟨rfl, ?_⟩
  have := (y vs q).symm.trans h1
  cases this
  exact h2
theorem its_ok {K : PySem.W.Frag} {H : Hp} {Z : Zn} {z : Str} : ItOk K (Its z) (strD z) H Z := fun H2 Z2 E _ i => by
  unfold strD
  refine ⟨fun d e => ?_, fun hl => (show z.cps.size ≤ i by simpa using hl)⟩
  rw [List.getElem?_map] at e
  cases q : z.cps.toList[i]? with
  | none => rw [q] at e; cases e
  | some c =>
    rw [q] at e
    cases e
    have q' : z.cps[i]? = some c := by simpa using q
    refine ⟨(show i < z.cps.size by have := lt_of_get q; simpa using this), fun x H3 y => ?_⟩
    obtain ⟨rfl, c', h1, rfl⟩ := y
    rw [q'] at h1
    cases h1
    exact ⟨rfl, .str _⟩
/-- the locked tag, the open one -/
@[simp] def lockT : Tag → Tag
  | .own => .lkO
  | .byr => .lkB
  | t => t
@[simp] def openT : Tag → Tag
  | .lkO => .own
  | .lkB => .byr
  | t => t
/-- a slot is locked: its object is not written, and no value leans on it -/
theorem SR.lock {K : PySem.W.Frag} {C : Ct} {Z : Zn} {m : MS} {σ : L2.St} {H : Hp} {i : Nat} {t : Tag} {d : D} (S : SR K C Z m σ H) (e : m[i]? = some (some (t, d))) (ht : t = .own ∨ t = .byr) :
    ∃ a, σ[i]? = some (some (.ref a)) ∧ Own K H Z.W a d ∧ SR K C ⟨fun b => Z.M b ∧ b ≠ a, Z.W⟩ (m.set i (some (lockT t, d))) σ H ∧ Ev Z H ⟨fun b => Z.M b ∧ b ≠ a, Z.W⟩ H := by
  have nt : t ≠ .shr := by rcases ht with h | h <;> (rw [h]; decide)
  obtain ⟨a, h1, h2, h3, h4, h5, h6⟩ := S.own i t d e nt
  refine ⟨a, h1, h3, ⟨by rw [List.length_set, S.len], fun j e' q => ?_, fun j tj e' q n => ?_, fun j k tj tk dj dk b q1 q2 n1 n2 s1 s2 => ?_, S.base, S.keep, fun b z => S.mr b z.1, fun b z => S.mw b z.1, S.wdom, S.w0d, S.r0, fun j tj e' b q n h => ?_, fun b hb => ?_, fun p hp => ?_, fun p hp => ?_⟩,
    ⟨fun _ _ _ q => q, fun _ z => .inl z.1, fun _ z => .inl z, fun _ z => z⟩⟩
  · rcases set_get q with ⟨rfl, e2, hl⟩ | ⟨ne, q⟩
    · rcases ht with rfl | rfl <;> cases e2
    · exact S.shr j e' q
  · rcases set_get q with ⟨rfl, e2, hl⟩ | ⟨ne, q⟩
    · have e3 : tj = lockT t ∧ e' = d := by injection e2 with e2; injection e2 with e2 e3; exact ⟨e2, e3⟩
      obtain ⟨rfl, rfl⟩ := e3
      rcases ht with rfl | rfl
      · exact ⟨a, h1, h2, h3, fun z => (by rcases z with z | z <;> cases z), fun _ => h5 (.inl rfl), fun z => (by rcases z with z | z <;> cases z)⟩
      · exact ⟨a, h1, h2, h3, fun z => (by rcases z with z | z <;> cases z), fun z => (by rcases z with z | z <;> cases z), fun _ => h6 (.inl rfl)⟩
    · obtain ⟨u, q1, q2, q3, q4, q5⟩ := S.own j tj e' q n
      have nu : u ≠ a := fun z => ne (S.inj j i tj t e' d a q e n nt (by rw [← z]; exact q1) h1)
      exact ⟨u, q1, q2, q3, fun z => ⟨q4 z, nu⟩, q5⟩
  · have q1' : ∃ t1 d1, t1 ≠ Tag.shr ∧ m[j]? = some (some (t1, d1)) := by
      rcases set_get q1 with ⟨rfl, e1, hl⟩ | ⟨ne1, q1⟩
      · exact ⟨t, d, nt, e⟩
      · exact ⟨_, _, n1, q1⟩
    have q2' : ∃ t1 d1, t1 ≠ Tag.shr ∧ m[k]? = some (some (t1, d1)) := by
      rcases set_get q2 with ⟨rfl, e1, hl⟩ | ⟨ne1, q2⟩
      · exact ⟨t, d, nt, e⟩
      · exact ⟨_, _, n2, q2⟩
    obtain ⟨t1, d1, n1', q1'⟩ := q1'
    obtain ⟨t2, d2, n2', q2'⟩ := q2'
    exact S.inj j k t1 t2 d1 d2 b q1' q2' n1' n2' s1 s2
  · rcases set_get q with ⟨rfl, e2, hl⟩ | ⟨ne, q⟩
    · rw [h1] at h
      cases h
      exact fun z => z.2 rfl
    · exact fun z => S.lck j tj e' b q n h z.1
  · obtain ⟨r1, r2, r3, r4⟩ := S.res b hb
    refine ⟨r1, fun z => r2 z.1, r3, fun j tj e' q n => ?_⟩
    rcases set_get q with ⟨rfl, e2, hl⟩ | ⟨ne, q⟩
    · exact r4 j t d e nt
    · exact r4 j tj e' q n
  · obtain ⟨t', e', q1, q2, q3⟩ := S.lkd p hp
    have hp1 : p.1 ≠ i := by
      intro z
      rw [z, e] at q2
      cases q2
      rcases ht with rfl | rfl <;> (rcases q1 with q | q <;> cases q)
    exact ⟨t', e', q1, by rw [List.getElem?_set_ne (Ne.symm hp1)]; exact q2, q3⟩
  · obtain ⟨t', e', q1, q2, q3⟩ := S.byr p hp
    by_cases hp1 : p.1 = i
    · rw [hp1, e] at q2
      cases q2
      rcases q1 with rfl | rfl
      · exact ⟨.lkB, d, .inr rfl, by rw [hp1, List.getElem?_set_self (lt_of_get e)]; rfl, q3⟩
      · rcases ht with z | z <;> cases z
    · exact ⟨t', e', q1, by rw [List.getElem?_set_ne (Ne.symm hp1)]; exact q2, q3⟩
/-- it is opened again -/
theorem SR.unlock {K : PySem.W.Frag} {C : Ct} {Z : Zn} {m : MS} {σ : L2.St} {H : Hp} {i : Nat} {t : Tag} {d : D} (S : SR K C Z m σ H) (e : m[i]? = some (some (t, d))) (ht : t = .lkO ∨ t = .lkB) (no : ∀ p ∈ C.lks, p.1 ≠ i) :
    ∃ a, σ[i]? = some (some (.ref a)) ∧ Z.W a ∧ ¬ Z.M a ∧ SR K C ⟨fun b => b = a ∨ Z.M b, Z.W⟩ (m.set i (some (openT t, d))) σ H := by
  have nt : t ≠ .shr := by rcases ht with h | h <;> (rw [h]; decide)
  obtain ⟨a, h1, h2, h3, h4, h5, h6⟩ := S.own i t d e nt
  refine ⟨a, h1, h2, S.lck i t d a e ht h1, ⟨by rw [List.length_set, S.len], fun j e' q => ?_, fun j tj e' q n => ?_, fun j k tj tk dj dk b q1 q2 n1 n2 s1 s2 => ?_, S.base, S.keep, fun b z => ?_, fun b z => z.elim (fun q => by rw [q]; exact h2) (S.mw b), S.wdom, S.w0d, S.r0, fun j tj e' b q n h => ?_, fun b hb => ?_, fun p hp => ?_, fun p hp => ?_⟩⟩
  · rcases set_get q with ⟨rfl, e2, hl⟩ | ⟨ne, q⟩
    · rcases ht with rfl | rfl <;> cases e2
    · exact S.shr j e' q
  · rcases set_get q with ⟨rfl, e2, hl⟩ | ⟨ne, q⟩
    · have e3 : tj = openT t ∧ e' = d := by injection e2 with e2; injection e2 with e2 e3; exact ⟨e2, e3⟩
      obtain ⟨rfl, rfl⟩ := e3
      rcases ht with rfl | rfl
      · exact ⟨a, h1, h2, h3, fun _ => .inl rfl, fun _ => h5 (.inr rfl), fun z => (by rcases z with z | z <;> cases z)⟩
      · exact ⟨a, h1, h2, h3, fun _ => .inl rfl, fun z => (by rcases z with z | z <;> cases z), fun _ => h6 (.inr rfl)⟩
    · obtain ⟨u, q1, q2, q3, q4, q5⟩ := S.own j tj e' q n
      exact ⟨u, q1, q2, q3, fun z => .inr (q4 z), q5⟩
  · have q1' : ∃ t1 d1, t1 ≠ Tag.shr ∧ m[j]? = some (some (t1, d1)) := by
      rcases set_get q1 with ⟨rfl, e1, hl⟩ | ⟨ne1, q1⟩
      · exact ⟨t, d, nt, e⟩
      · exact ⟨_, _, n1, q1⟩
    have q2' : ∃ t1 d1, t1 ≠ Tag.shr ∧ m[k]? = some (some (t1, d1)) := by
      rcases set_get q2 with ⟨rfl, e1, hl⟩ | ⟨ne1, q2⟩
      · exact ⟨t, d, nt, e⟩
      · exact ⟨_, _, n2, q2⟩
    obtain ⟨t1, d1, n1', q1'⟩ := q1'
    obtain ⟨t2, d2, n2', q2'⟩ := q2'
    exact S.inj j k t1 t2 d1 d2 b q1' q2' n1' n2' s1 s2
  · rcases z with z | z
    · rw [z]
      rcases ht with rfl | rfl
      · exact .inr (h5 (.inr rfl))
      · exact .inl (h6 (.inr rfl))
    · exact S.mr b z
  · rcases set_get q with ⟨rfl, e2, hl⟩ | ⟨ne, q⟩
    · have e3 : tj = openT t := by injection e2 with e2; injection e2
      subst e3
      rcases ht with rfl | rfl <;> (rcases n with n | n <;> cases n)
    · rintro (z | z)
      · rw [z] at h
        exact ne (S.inj j i tj t e' d a q e (by rcases n with n | n <;> (rw [n]; decide)) nt h h1)
      · exact S.lck j tj e' b q n h z
  · obtain ⟨r1, r2, r3, r4⟩ := S.res b hb
    refine ⟨r1, fun z => z.elim (fun q => r4 i t d e nt (by rw [q]; exact h1)) r2, r3, fun j tj e' q n => ?_⟩
    rcases set_get q with ⟨rfl, e2, hl⟩ | ⟨ne, q⟩
    · exact r4 j t d e nt
    · exact r4 j tj e' q n
  · obtain ⟨t', e', q1, q2, q3⟩ := S.lkd p hp
    exact ⟨t', e', q1, by rw [List.getElem?_set_ne (Ne.symm (no p hp))]; exact q2, q3⟩
  · obtain ⟨t', e', q1, q2, q3⟩ := S.byr p hp
    by_cases hp1 : p.1 = i
    · rw [hp1, e] at q2
      cases q2
      rcases q1 with rfl | rfl
      · rcases ht with z | z <;> cases z
      · exact ⟨.byr, d, .inl rfl, by rw [hp1, List.getElem?_set_self (lt_of_get e)]; rfl, q3⟩
    · exact ⟨t', e', q1, by rw [List.getElem?_set_ne (Ne.symm hp1)]; exact q2, q3⟩
theorem mi_seq {tg : Expr} (he : ME X e fe) : MI X tg e (iSeq fe) :=
  (((pi_list he).or (pi_tup he)).or (pi_str he)).weak fun σ H R ⟨C, Z, m, ds, m', bk, S, e, k⟩ => by
    unfold iSeq at e
    have lst : ∀ {p : P} {m1 : MS}, fe m = some (p, m1) → (∀ v H1 Z1, Ev Z H Z1 H1 → SR X.K C Z1 m1 σ H1 → RP1 X.K C Z1 m1 σ H H1 v p → ∃ a vs Z2, v = .ref a ∧ SqL X.K H1 a vs ∧ (∀ H2 Z3, Ev Z2 H1 Z3 H2 → SqL X.K H2 a vs) ∧ Ev Z1 H1 Z2 H1 ∧ SR X.K C Z2 m' σ H1 ∧ Reps X.K H1 Z2.W vs ds ∧ BkOk C Z H m' σ bk) → iList X.K (tE X.K fe) σ H R := by
      intro p m1 e1 w
      refine tE_one S e1 fun v H1 Z1 E1 S1 r1 => ?_
      obtain ⟨a, vs, Z2, rfl, h1, h3, h4, h5, h6, h7⟩ := w v H1 Z1 E1 S1 r1
      exact ⟨a, rfl, ⟨vs, h1⟩, k _ H1 Z2 (E1.trans h4) h5 (itl_ok h3 h5.mw h6) h7⟩
    have own : ∀ {m1 : MS} {i : Nat} {t : Tag} {es : List D}, fe m = some (.bor i, m1) → sl m1 i = some (t, .lst es) → (t = .own ∨ t = .byr) → (ds = es ∧ m' = m1.set i (some (lockT t, .lst es)) ∧ bk = some i) → iList X.K (tE X.K fe) σ H R := by
      intro m1 i t es e1 em ht eq
      obtain ⟨rfl, rfl, rfl⟩ := eq
      refine lst e1 fun v H1 Z1 E1 S1 r1 => ?_
      obtain ⟨a, h1, ⟨vs, h3, h4⟩, h5, h6⟩ := S1.lock (sl_get em) ht
      have r' : σ[i]? = some (some v) := r1
      rw [h1] at r'
      cases r'
      refine ⟨a, vs, _, rfl, SqL.of h3, fun H2 Z3 E => ev_lst (Z := ⟨fun b => Z1.M b ∧ b ≠ a, Z1.W⟩) (fun z => z.2 rfl) h3 E, h6, h5, h4, fun p hp q => ?_, a, lockT t, _, h1, List.getElem?_set_self (lt_of_get (sl_get em)), by rcases ht with rfl | rfl <;> simp [lockT], ?_⟩
      · obtain ⟨t', e', q1, q2, q3⟩ := S1.lkd p hp
        rw [q, sl_get em] at q2
        cases q2
        rcases ht with rfl | rfl <;> (rcases q1 with q | q <;> cases q)
      · obtain ⟨a', g1, g2, g3, g4, _⟩ := S1.own i t _ (sl_get em) (by rcases ht with rfl | rfl <;> decide)
        rw [h1] at g1
        cases g1
        exact E1.m a (g4 ht)
    split at e
    · rename_i es m1 e1
      cases e
      refine .inl (.inl (lst e1 fun v H1 Z1 E1 S1 r1 => ?_))
      cases (show Rep X.K H1 Z1.W v (.lst ds) from r1) with
      | @lst a vs _ n h1 r => exact ⟨a, vs, Z1, rfl, SqL.of h1, fun H2 Z3 E => ev_lst (fun z => n (S1.mw a z)) h1 E, .refl, S1, r, trivial⟩
    · rename_i es m1 e1
      cases e
      refine .inl (.inr (tE_one S e1 fun v H1 Z1 E1 S1 r1 => ?_))
      cases (show Rep X.K H1 Z1.W v (.tup ds) from r1) with
      | @tup a vs _ n h1 r => exact ⟨a, rfl, ⟨vs, h1.seq⟩, k _ H1 Z1 E1 S1 (itt_ok (fun z => n (S1.mw a z)) h1 S1.mw r) trivial⟩
    · rename_i es m1 e1
      cases e
      refine .inl (.inl (lst e1 fun v H1 Z1 E1 S1 r1 => ?_))
      cases (show Rep X.K H1 Z1.W v (.frz ds) from r1) with
      | @frz a vs _ h1 r =>
        have h1' := h1
        rcases h1 with ⟨n, o, h1⟩ | h1
        · exact ⟨a, vs, Z1, rfl, .inl (.inr ⟨o, h1⟩), fun H2 Z3 E => .inl (.inr ⟨o, E.h a _ (fun z => n (S1.mw a z)) h1⟩), .refl, S1, r, trivial⟩
        · exact ⟨a, vs, Z1, rfl, .inr h1, fun H2 Z3 E => .inr h1, .refl, S1, r, trivial⟩
    · rename_i z m1 e1
      cases e
      refine .inr (tE_one S e1 fun v H1 Z1 E1 S1 r1 => ?_)
      cases (show Rep X.K H1 Z1.W v (.str z) from r1)
      exact ⟨z, rfl, k _ H1 Z1 E1 S1 its_ok trivial⟩
    · rename_i es m1 e1
      cases e
      refine .inl (.inl (lst e1 fun v H1 Z1 E1 S1 r1 => ?_))
      obtain ⟨a, rfl, n, _, _, _, vs, h1, r⟩ := r1
      exact ⟨a, vs, Z1, rfl, SqL.of h1, fun H2 Z3 E => ev_lst (fun z => n (S1.mw a z)) h1 E, .refl, S1, r.ks (.sub fun b z => .inr z), trivial⟩
    · rename_i i m1 e1
      split at e
      · rename_i es em
        cases e
        refine .inl (.inl (lst e1 fun v H1 Z1 E1 S1 r1 => ?_))
        obtain ⟨u, h1, h2⟩ := S1.shr i _ (sl_get em)
        have r' : σ[i]? = some (some v) := r1
        rw [h1] at r'
        cases r'
        cases h2 with
        | @lst a vs _ n h3 r => exact ⟨a, vs, Z1, rfl, SqL.of h3, fun H2 Z3 E => ev_lst (fun z => n (S1.mw a z)) h3 E, .refl, S1, r, trivial⟩
      · rename_i es em
        cases e
        refine .inl (.inl (lst e1 fun v H1 Z1 E1 S1 r1 => ?_))
        obtain ⟨a, h1, h2, ⟨vs, h3, r⟩, _⟩ := S1.own i .lkO _ (sl_get em) (by decide)
        have r' : σ[i]? = some (some v) := r1
        have nm := S1.lck i .lkO _ a (sl_get em) (by decide) h1
        rw [h1] at r'
        cases r'
        exact ⟨a, vs, Z1, rfl, SqL.of h3, fun H2 Z3 E => ev_lst nm h3 E, .refl, S1, r, trivial⟩
      · rename_i es em
        cases e
        refine .inl (.inl (lst e1 fun v H1 Z1 E1 S1 r1 => ?_))
        obtain ⟨a, h1, h2, ⟨vs, h3, r⟩, _⟩ := S1.own i .lkB _ (sl_get em) (by decide)
        have r' : σ[i]? = some (some v) := r1
        have nm := S1.lck i .lkB _ a (sl_get em) (by decide) h1
        rw [h1] at r'
        cases r'
        exact ⟨a, vs, Z1, rfl, SqL.of h3, fun H2 Z3 E => ev_lst nm h3 E, .refl, S1, r, trivial⟩
      · rename_i es em
        cases e
        exact .inl (.inl (own e1 em (.inl rfl) ⟨rfl, rfl, rfl⟩))
      · rename_i es em
        cases e
        exact .inl (.inl (own e1 em (.inr rfl) ⟨rfl, rfl, rfl⟩))
      · cases e
    · cases e
end
end VL

set_option Elab.async false
set_option linter.all false
set_option maxRecDepth 100000
set_option autoImplicit false
/-! The value layer, part 10: for, while, comprehensions. -/
namespace VL
open PySem PySem.Spec L2

@[simp] def unlockM (m : MS) : Option Nat → Option MS
  | none => some m
  | some i => match sl m i with
    | some (.lkO, d) => some (m.set i (some (.own, d)))
    | some (.lkB, d) => some (m.set i (some (.byr, d)))
    | _ => none
/-- the context within the loop -/
def Ct.lk (C : Ct) (σ : L2.St) : Option Nat → Ct
  | none => C
  | some i => match σ[i]? with
    | some (some (.ref a)) => { C with lks := (i, a) :: C.lks }
    | _ => C
section
variable {K : PySem.W.Frag} {C : Ct} {Z Z' Z1 Z2 : Zn} {m m' m1 m2 : MS} {σ σ' : L2.St} {H H' H1 H2 : Hp} {v : V} {p q : P} {d : D} {a : Addr} {i : Nat} {t : Tag} {bk : Option Nat}
theorem SR.ctx {C' : Ct} (S : SR K C Z m σ H) (h0 : C'.W0 = C.W0) (h1 : C'.H0 = C.H0) (h2 : C'.args = C.args) (h3 : ∀ p ∈ C'.lks, ∃ t d, (t = Tag.lkO ∨ t = Tag.lkB) ∧ m[p.1]? = some (some (t, d)) ∧ σ[p.1]? = some (some (.ref p.2)))
    (h4 : ∀ b ∈ C'.res, Z.W b ∧ ¬ Z.M b ∧ C.H0 b = none ∧ ∀ (i : Nat) (t : Tag) (d : D), m[i]? = some (some (t, d)) → t ≠ .shr → σ[i]? ≠ some (some (.ref b))) : SR K C' Z m σ H := by
  have hR : C'.R = C.R := by unfold Ct.R; rw [h2]
  exact ⟨S.len, S.shr, fun i t d e n => by rw [h1, hR]; exact S.own i t d e n, S.inj, by rw [h0]; exact S.base, by rw [h1, hR]; exact S.keep, by rw [h1, hR]; exact S.mr, S.mw, S.wdom, by rw [h0, h1]; exact S.w0d, by rw [h0, hR]; exact S.r0, S.lck, by rw [h1]; exact h4, h3, by rw [h2]; exact S.byr⟩
theorem lk_W0 : (C.lk σ bk).W0 = C.W0 := by unfold Ct.lk; split <;> first | rfl | (split <;> rfl)
theorem lk_H0 : (C.lk σ bk).H0 = C.H0 := by unfold Ct.lk; split <;> first | rfl | (split <;> rfl)
theorem lk_args : (C.lk σ bk).args = C.args := by unfold Ct.lk; split <;> first | rfl | (split <;> rfl)
theorem lk_res : (C.lk σ bk).res = C.res := by unfold Ct.lk; split <;> first | rfl | (split <;> rfl)
theorem lk_lks : ∀ p ∈ C.lks, p ∈ (C.lk σ bk).lks := by
  intro p hp
  unfold Ct.lk
  split
  · exact hp
  · split
    · exact List.mem_cons_of_mem _ hp
    · exact hp
theorem SR.lkIn (S : SR K C Z m σ H) (b : BkOk C Z1 H1 m σ bk) : SR K (C.lk σ bk) Z m σ H := by
  refine S.ctx lk_W0 lk_H0 lk_args (fun p hp => ?_) (by rw [lk_res]; exact S.res)
  cases bk with
  | none => exact S.lkd p hp
  | some i =>
    obtain ⟨_, a, t, d, h1, h2, h3, _⟩ := b
    unfold Ct.lk at hp
    simp only [h1] at hp
    rcases List.mem_cons.mp hp with rfl | hp
    · exact ⟨t, d, h3, h2, h1⟩
    · exact S.lkd p hp
theorem SR.lkOut (S : SR K (C.lk σ bk) Z' m' σ' H') : SR K C Z' m' σ' H' :=
  S.ctx lk_W0.symm lk_H0.symm lk_args.symm (fun p hp => S.lkd p (lk_lks p hp)) (fun b hb => S.res b (by rw [lk_res]; exact hb))
theorem retV_lk {fl : P} : RetV K (C.lk σ bk) H v fl ↔ RetV K C H v fl := by
  cases fl <;> (unfold RetV; simp only [lk_W0, lk_H0])
/-- behind the loop the slot is open again -/
theorem SR.lkEnd (S : SR K (C.lk σ bk) Z' m' σ' H') (b : BkOk C Z H m1 σ bk) (E : Ev Z H Z' H') (e : unlockM m' bk = some m2) : ∃ Z2, Ev Z H Z2 H' ∧ SR K C Z2 m2 σ' H' ∧ Z2.W = Z'.W := by
  cases bk with
  | none => cases e; exact ⟨Z', E, S, rfl⟩
  | some i =>
    obtain ⟨no, a, t, d, h1, h2, h3, h4⟩ := b
    have lks : (C.lk σ (some i)).lks = (i, a) :: C.lks := by unfold Ct.lk; simp only [h1]
    obtain ⟨t', d', g1, g2, g3⟩ := S.lkd (i, a) (by rw [lks]; exact List.mem_cons_self)
    have So := S.lkOut
    obtain ⟨a', k1, k2, k3, k4⟩ := So.unlock g2 g1 no
    rw [show σ'[i]? = some (some (V.ref a)) from g3] at k1
    cases k1
    have em : m2 = m'.set i (some (openT t', d')) := by
      have e : (match sl m' i with
        | some (.lkO, d) => some (m'.set i (some (.own, d)))
        | some (.lkB, d) => some (m'.set i (some (.byr, d)))
        | _ => none) = some m2 := e
      rw [sl_of g2] at e
      rcases g1 with rfl | rfl
      · cases e; rfl
      · cases e; rfl
    rw [em]
    exact ⟨⟨fun b => b = a ∨ Z'.M b, Z'.W⟩, ⟨E.h, fun b z => Or.elim z (fun q => by rw [q]; exact h4) (E.m b), E.w, E.d⟩, k4, rfl⟩
end

/-! ### for -/
def forL (g : GF) (body : SF) : List D → MS → Option (Fl × MS)
  | [], m => some (.nx, m)
  | d :: ds, m => match g d m with
    | some m1 => match body m1 with
      | some (.nx, m2) => forL g body ds m2
      | some (.ct, m2) => forL g body ds m2
      | some (.bk, m2) => some (.bk, m2)
      | some (.rt p, m2) => some (.rt p, m2)
      | none => none
    | none => none
def sFor (it : IF) (g : GF) (body : SF) : SF := fun m => match it m with
  | some (ds, m1, bk) => match forL g body ds m1 with
    | some (.rt p, m2) => some (.rt p, m2)
    | some (_, m2) => match unlockM m2 bk with
      | some m3 => some (.nx, m3)
      | none => none
    | none => none
  | none => none
section
variable {X : Cx} {tg iter c : Expr} {body : List Stmt} {fit : IF} {ts : List Nat} {gf : GF} {fb : SF} {tc : TF} {pos : Pos}
theorem ms_for (hc : X.calm = true) (hi : MI X tg iter fit) (hg : MG X tg ts gf) (hb : MSs X body fb) (hp : PassesOwn (model X.prog X.w) X.A X.env X.xe) (hs : ∀ x, foldedSetIterable iter X.env x = pure x := by intro _; rfl) : MSt X (.For tg iter body [] pos) (sFor fit gf fb) :=
  (ps_for hp hc hi hg hb hs).weak fun D σ H ⟨C, Z, m, fl, m', S, e, k⟩ => by
    unfold sFor at e
    split at e
    · rename_i ds m1 bk e1
      refine ⟨C, Z, m, ds, m1, bk, S, e1, fun J H1 Z1 E1 S1 ok bko => ?_⟩
      obtain ⟨fl2, m2, e2⟩ : ∃ fl2 m2, forL gf fb ds m1 = some (fl2, m2) := by
        split at e
        · exact ⟨_, _, by assumption⟩
        · exact ⟨_, _, by assumption⟩
        · cases e
      rw [e2] at e
      have fin : ∀ σ2 H2 Z2, Ev Z H Z2 H2 → SR X.K (C.lk σ bk) Z2 m2 σ2 H2 → (match fl2 with
          | .rt p => ∀ v, RetV X.K C H2 v p → D.rt v H2
          | _ => D.nx σ2 H2) := by
        intro σ2 H2 Z2 E2 S2
        cases fl2 with
        | rt p =>
          cases e
          exact k σ2 H2 Z2 E2 S2.lkOut
        | _ =>
          dsimp only at e
          split at e
          · rename_i m3 e3
            cases e
            obtain ⟨Z3, E3, S3, _⟩ := S2.lkEnd bko E2 e3
            exact k σ2 H2 Z3 E3 S3
          · cases e
      refine ⟨fun i mm σ2 H2 => mm = ds.length - i ∧ i ≤ ds.length ∧ ∃ Z2 n, Ev Z1 H1 Z2 H2 ∧ SR X.K (C.lk σ bk) Z2 n σ2 H2 ∧ forL gf fb (ds.drop i) n = some (fl2, m2), ⟨_, rfl, Nat.zero_le _, Z1, m1, .refl, S1.lkIn bko, e2⟩, ?_⟩
      rintro i mm σ2 H2 ⟨rfl, hi, Z2, n, E2, S2, e3⟩
      have okk := ok H2 Z2 E2 S2.wdom i
      by_cases hlt : i < ds.length
      · obtain ⟨go, yl⟩ := okk.1 ds[i] (List.getElem?_eq_getElem hlt)
        rw [List.drop_eq_getElem_cons hlt] at e3
        unfold forL at e3
        split at e3
        · rename_i n1 en1
          refine .inr ⟨go, fun σ4 H4 => ∃ Z4 n4, Ev Z1 H1 Z4 H4 ∧ SR X.K (C.lk σ bk) Z4 n4 σ4 H4 ∧ forL gf fb (ds.drop (i + 1)) n4 = some (fl2, m2), fun σ4 H4 ⟨Z4, n4, E4, S4, e4⟩ => ⟨_, by omega, rfl, hlt, Z4, n4, E4, S4, e4⟩, fun x H3 y => ?_⟩
          obtain ⟨rfl, rep⟩ := yl x H3 y
          refine ⟨C.lk σ bk, Z2, n, ds[i], n1, S2, rep, en1, fun σ3 H3 Z3 E3 S3 _ => ?_⟩
          split at e3
          · rename_i n2 en2
            exact ⟨C.lk σ bk, Z3, n1, _, n2, S3, en2, fun σ4 H4 Z4 E4 S4 => ⟨Z4, n2, (E2.trans E3).trans E4, S4, e3⟩⟩
          · rename_i n2 en2
            exact ⟨C.lk σ bk, Z3, n1, _, n2, S3, en2, fun σ4 H4 Z4 E4 S4 => ⟨Z4, n2, (E2.trans E3).trans E4, S4, e3⟩⟩
          · rename_i n2 en2
            cases e3
            exact ⟨C.lk σ bk, Z3, n1, _, _, S3, en2, fun σ4 H4 Z4 E4 S4 => fin σ4 H4 Z4 (((E1.trans E2).trans E3).trans E4) S4⟩
          · rename_i p n2 en2
            cases e3
            exact ⟨C.lk σ bk, Z3, n1, _, _, S3, en2, fun σ4 H4 Z4 E4 S4 v r => fin σ4 H4 Z4 (((E1.trans E2).trans E3).trans E4) S4 v (retV_lk.mp r)⟩
          · cases e3
        · cases e3
      · have he : i = ds.length := by omega
        subst he
        rw [List.drop_length] at e3
        cases e3
        exact .inl ⟨okk.2 (Nat.le_refl _), fin σ2 H2 Z2 (E1.trans E2) S2⟩
    · cases e

/-! ### while -/
def whileL (c : TF) (body : SF) : Nat → MS → Option (Fl × MS)
  | 0, _ => none
  | n + 1, m => match c m with
    | some (true, m1) => match body m1 with
      | some (.nx, m2) => whileL c body n m2
      | some (.ct, m2) => whileL c body n m2
      | some (.bk, m2) => some (.nx, m2)
      | some (.rt p, m2) => some (.rt p, m2)
      | none => none
    | some (false, m1) => some (.nx, m1)
    | none => none
theorem whileL_mono {c : TF} {body : SF} {r : Fl × MS} : ∀ {n : Nat} {m : MS} {k : Nat}, n ≤ k → whileL c body n m = some r → whileL c body k m = some r
  | 0, _, _, _, e => by cases e
  | n + 1, m, 0, h, _ => by omega
  | n + 1, m, k + 1, h, e => by
    unfold whileL at e ⊢
    split at e
    · split at e
      · exact whileL_mono (by omega) e
      · exact whileL_mono (by omega) e
      · exact e
      · exact e
      · cases e
    · exact e
    · cases e
open Classical in
noncomputable def sWhile (c : TF) (body : SF) : SF := fun m => if h : ∃ n, (whileL c body n m).isSome = true then whileL c body (choose h) m else none
theorem sWhile_eq {c : TF} {body : SF} {m : MS} {r : Fl × MS} (n : Nat) (e : whileL c body n m = some r) : sWhile c body m = some r := by
  have h : ∃ n, (whileL c body n m).isSome = true := ⟨n, by rw [e]; rfl⟩
  unfold sWhile
  rw [dif_pos h]
  obtain ⟨r', h'⟩ := Option.isSome_iff_exists.mp (Classical.choose_spec h)
  have e1 := whileL_mono (Nat.le_max_left n (Classical.choose h)) e
  have e2 := whileL_mono (Nat.le_max_right n (Classical.choose h)) h'
  rw [h', ← e2, e1]
theorem sWhile_ex {c : TF} {body : SF} {m : MS} {r : Fl × MS} (e : sWhile c body m = some r) : ∃ n, whileL c body n m = some r := by
  unfold sWhile at e
  split at e
  · exact ⟨_, e⟩
  · cases e
theorem ms_while (hc : MT X c tc) (hb : MSs X body fb) (hp : PassesOwn (model X.prog X.w) X.A X.env X.xe) : MSt X (.While c body [] pos) (sWhile tc fb) :=
  (ps_while hp hc hb).weak fun D σ H ⟨C, Z, m, fl, m', S, e, k⟩ => by
    obtain ⟨n, e⟩ := sWhile_ex e
    refine ⟨fun n σ2 H2 => ∃ Z2 m2, Ev Z H Z2 H2 ∧ SR X.K C Z2 m2 σ2 H2 ∧ whileL tc fb n m2 = some (fl, m'), ⟨n, Z, m, .refl, S, e⟩, ?_⟩
    rintro n σ2 H2 ⟨Z2, m2, E2, S2, e2⟩
    cases n with
    | zero => cases e2
    | succ n =>
      unfold whileL at e2
      split at e2
      · rename_i m3 e3
        refine ⟨C, Z2, m2, true, m3, S2, e3, fun H3 Z3 E3 S3 => iteT ?_⟩
        refine ⟨fun σ4 H4 => ∃ Z4 m4, Ev Z H Z4 H4 ∧ SR X.K C Z4 m4 σ4 H4 ∧ whileL tc fb n m4 = some (fl, m'), fun σ4 H4 ⟨Z4, m4, E4, S4, e4⟩ => ⟨n, Nat.lt_succ_self n, Z4, m4, E4, S4, e4⟩, ?_⟩
        split at e2
        · rename_i m4 e4
          exact ⟨C, Z3, m3, _, m4, S3, e4, fun σ4 H4 Z4 E4 S4 => ⟨Z4, m4, (E2.trans E3).trans E4, S4, e2⟩⟩
        · rename_i m4 e4
          exact ⟨C, Z3, m3, _, m4, S3, e4, fun σ4 H4 Z4 E4 S4 => ⟨Z4, m4, (E2.trans E3).trans E4, S4, e2⟩⟩
        · rename_i m4 e4
          cases e2
          exact ⟨C, Z3, m3, _, _, S3, e4, fun σ4 H4 Z4 E4 S4 => k σ4 H4 Z4 ((E2.trans E3).trans E4) S4⟩
        · rename_i p m4 e4
          cases e2
          exact ⟨C, Z3, m3, _, _, S3, e4, fun σ4 H4 Z4 E4 S4 => k σ4 H4 Z4 ((E2.trans E3).trans E4) S4⟩
        · cases e2
      · rename_i m3 e3
        cases e2
        exact ⟨C, Z2, m2, false, _, S2, e3, fun H3 Z3 E3 S3 => iteF (k σ2 H3 Z3 (E2.trans E3) S3)⟩
      · cases e2
end
end VL

set_option Elab.async false
set_option linter.all false
set_option maxRecDepth 100000
set_option autoImplicit false
/-! The value layer, part 11: comprehensions. -/
namespace VL
open PySem PySem.Spec L2

@[simp] def wipeM (m : MS) : List Nat → MS
  | [] => m
  | v :: vs => (wipeM m vs).set v none
@[simp] def restM (m1 m : MS) : List Nat → MS
  | [] => m
  | v :: vs => (restM m1 m vs).set v (sl m1 v)
@[simp] def okWipe (m : MS) (vs : List Nat) : Bool := vs.all fun i => match sl m i with
  | none => true
  | some (.shr, _) => true
  | _ => false
theorem okWipe_tag {m : MS} {vs : List Nat} {i : Nat} {t : Tag} {d : D} (o : okWipe m vs = true) (hi : i ∈ vs) (e : sl m i = some (t, d)) : t = .shr := by
  have := List.all_eq_true.mp o i hi
  rw [e] at this
  cases t <;> first | rfl | cases this
theorem wipeM_length (m : MS) : ∀ vs : List Nat, (wipeM m vs).length = m.length
  | [] => rfl
  | v :: vs => by unfold wipeM; rw [List.length_set, wipeM_length m vs]
theorem restM_length (m1 m : MS) : ∀ vs : List Nat, (restM m1 m vs).length = m.length
  | [] => rfl
  | v :: vs => by unfold restM; rw [List.length_set, restM_length m1 m vs]
theorem wipeM_some {m : MS} {i : Nat} {x : Tag × D} : ∀ {vs : List Nat}, (wipeM m vs)[i]? = some (some x) → m[i]? = some (some x) ∧ i ∉ vs
  | [], h => ⟨h, by simp⟩
  | v :: vs, h => by
    unfold wipeM at h
    rcases set_get h with ⟨rfl, e, _⟩ | ⟨ne, h⟩
    · cases e
    · obtain ⟨h1, h2⟩ := wipeM_some h
      exact ⟨h1, by simp only [List.mem_cons, not_or]; exact ⟨ne, h2⟩⟩
theorem wipeM_out {m : MS} {i : Nat} : ∀ {vs : List Nat}, i ∉ vs → (wipeM m vs)[i]? = m[i]?
  | [], _ => rfl
  | v :: vs, h => by
    simp only [List.mem_cons, not_or] at h
    unfold wipeM
    rw [List.getElem?_set_ne (Ne.symm h.1)]
    exact wipeM_out h.2
theorem restM_some {m1 m : MS} {i : Nat} {x : Tag × D} : ∀ {vs : List Nat}, (restM m1 m vs)[i]? = some (some x) → (i ∈ vs ∧ sl m1 i = some x) ∨ (i ∉ vs ∧ m[i]? = some (some x))
  | [], h => .inr ⟨by simp, h⟩
  | v :: vs, h => by
    unfold restM at h
    rcases set_get h with ⟨rfl, e, _⟩ | ⟨ne, h⟩
    · exact .inl ⟨List.mem_cons_self, e.symm⟩
    · rcases restM_some h with ⟨h1, h2⟩ | ⟨h1, h2⟩
      · exact .inl ⟨List.mem_cons_of_mem _ h1, h2⟩
      · exact .inr ⟨by simp only [List.mem_cons, not_or]; exact ⟨ne, h1⟩, h2⟩
theorem restM_out {m1 m : MS} {i : Nat} : ∀ {vs : List Nat}, i ∉ vs → (restM m1 m vs)[i]? = m[i]?
  | [], _ => rfl
  | v :: vs, h => by
    simp only [List.mem_cons, not_or] at h
    unfold restM
    rw [List.getElem?_set_ne (Ne.symm h.1)]
    exact restM_out h.2
theorem wipe_in {σ : L2.St} {i : Nat} : ∀ {vs : List Nat}, i ∈ vs → (wipe σ vs)[i]? = if i < σ.length then some none else none
  | v :: vs, h => by
    unfold wipe
    by_cases hv : v = i
    · subst hv
      by_cases hl : v < σ.length
      · rw [if_pos hl, List.getElem?_set_self (by rw [wipe_length]; exact hl)]
      · rw [if_neg hl, List.getElem?_eq_none (by rw [List.length_set, wipe_length]; omega)]
    · rw [List.getElem?_set_ne hv]
      rcases List.mem_cons.mp h with rfl | h
      · exact absurd rfl hv
      · exact wipe_in h
theorem wipe_idem (σ : L2.St) (vs : List Nat) : wipe (wipe σ vs) vs = wipe σ vs := by
  refine List.ext_getElem? fun i => ?_
  by_cases h : i ∈ vs
  · rw [wipe_in h, wipe_in h, wipe_length]
  · rw [wipe_out h]
section
variable {K : PySem.W.Frag} {C : Ct} {Z Z' Z1 Z2 : Zn} {m m' m1 m2 : MS} {σ σ' : L2.St} {H H' H1 H2 : Hp} {a D0 : Addr} {vs : List Nat}
theorem SR.wipeS (S : SR K C Z m σ H) (o : okWipe m vs = true) : SR K C Z (wipeM m vs) (wipe σ vs) H := by
  have tagged : ∀ {i : Nat} {t : Tag} {d : D}, m[i]? = some (some (t, d)) → t ≠ .shr → i ∉ vs := fun e n h => n (okWipe_tag o h (sl_of e))
  refine ⟨by rw [wipeM_length, wipe_length, S.len], fun i d e => ?_, fun i t d e n => ?_, fun i j ti tj di dj b q1 q2 n1 n2 s1 s2 => ?_, S.base, S.keep, S.mr, S.mw, S.wdom, S.w0d, S.r0, fun i t d b e n h => ?_, fun b hb => ?_, fun p hp => ?_, fun p hp => ?_⟩
  · obtain ⟨e, h⟩ := wipeM_some e
    rw [wipe_out h]
    exact S.shr i d e
  · obtain ⟨e, h⟩ := wipeM_some e
    rw [wipe_out h]
    exact S.own i t d e n
  · obtain ⟨q1, h1⟩ := wipeM_some q1
    obtain ⟨q2, h2⟩ := wipeM_some q2
    rw [wipe_out h1] at s1
    rw [wipe_out h2] at s2
    exact S.inj i j ti tj di dj b q1 q2 n1 n2 s1 s2
  · obtain ⟨e, h'⟩ := wipeM_some e
    rw [wipe_out h'] at h
    exact S.lck i t d b e n h
  · obtain ⟨h1, h2, h3, h4⟩ := S.res b hb
    refine ⟨h1, h2, h3, fun i t d e n => ?_⟩
    obtain ⟨e, h⟩ := wipeM_some e
    rw [wipe_out h]
    exact h4 i t d e n
  · obtain ⟨t, d, h1, h2, h3⟩ := S.lkd p hp
    have h := tagged h2 (by rcases h1 with h | h <;> (rw [h]; decide))
    exact ⟨t, d, h1, by rw [wipeM_out h]; exact h2, by rw [wipe_out h]; exact h3⟩
  · obtain ⟨t, d, h1, h2, h3⟩ := S.byr p hp
    have h := tagged h2 (by rcases h1 with h | h <;> (rw [h]; decide))
    exact ⟨t, d, h1, by rw [wipeM_out h]; exact h2, by rw [wipe_out h]; exact h3⟩
theorem SR.restore {C' : Ct} (S1 : SR K C Z1 m1 σ H1) (E : Ev Z1 H1 Z2 H2) (S2 : SR K C' Z2 m2 (wipe σ vs) H2) (o : okWipe m1 vs = true) : SR K C' Z2 (restM m1 m2 vs) σ H2 := by
  have ks := S1.ks E
  have out : ∀ {i : Nat} {x : V}, (wipe σ vs)[i]? = some (some x) → i ∉ vs := fun h => (wipe_some h).2
  have own : ∀ {i : Nat} {t : Tag} {d : D}, (restM m1 m2 vs)[i]? = some (some (t, d)) → t ≠ .shr → m2[i]? = some (some (t, d)) ∧ i ∉ vs := fun e n => by
    rcases restM_some e with ⟨h1, h2⟩ | ⟨h1, h2⟩
    · exact absurd (okWipe_tag o h1 h2) n
    · exact ⟨h2, h1⟩
  refine ⟨by rw [restM_length, S2.len, wipe_length], fun i d e => ?_, fun i t d e n => ?_, fun i j ti tj di dj b q1 q2 n1 n2 s1 s2 => ?_, S2.base, S2.keep, S2.mr, S2.mw, S2.wdom, S2.w0d, S2.r0, fun i t d b e n h => ?_, fun b hb => ?_, fun p hp => ?_, fun p hp => ?_⟩
  · rcases restM_some e with ⟨h1, h2⟩ | ⟨h1, h2⟩
    · obtain ⟨v, q1, q2⟩ := S1.shr i d (sl_get h2)
      exact ⟨v, q1, q2.ks ks⟩
    · obtain ⟨v, q1, q2⟩ := S2.shr i d h2
      rw [wipe_out h1] at q1
      exact ⟨v, q1, q2⟩
  · obtain ⟨e, h⟩ := own e n
    have := S2.own i t d e n
    rw [wipe_out h] at this
    exact this
  · obtain ⟨q1, h1⟩ := own q1 n1
    obtain ⟨q2, h2⟩ := own q2 n2
    refine S2.inj i j ti tj di dj b q1 q2 n1 n2 ?_ ?_
    · rw [wipe_out h1]; exact s1
    · rw [wipe_out h2]; exact s2
  · obtain ⟨e, h'⟩ := own e (by rcases n with h | h <;> (rw [h]; decide))
    exact S2.lck i t d b e n (by rw [wipe_out h']; exact h)
  · obtain ⟨h1, h2, h3, h4⟩ := S2.res b hb
    refine ⟨h1, h2, h3, fun i t d e n => ?_⟩
    obtain ⟨e, h⟩ := own e n
    have := h4 i t d e n
    rw [wipe_out h] at this
    exact this
  · obtain ⟨t, d, h1, h2, h3⟩ := S2.lkd p hp
    have h := out h3
    exact ⟨t, d, h1, by rw [restM_out h]; exact h2, by rw [wipe_out h] at h3; exact h3⟩
  · obtain ⟨t, d, h1, h2, h3⟩ := S2.byr p hp
    have h := out h3
    exact ⟨t, d, h1, by rw [restM_out h]; exact h2, by rw [wipe_out h] at h3; exact h3⟩

/-! ### an object that is being built -/
def Ct.rs (C : Ct) (a : Addr) : Ct := { C with res := a :: C.res }
theorem SR.begin (S : SR K C Z m σ H) (h : H a = none) {o : HO} : SR K (C.rs a) ⟨Z.M, fun b => b = a ∨ Z.W b⟩ m σ (upd H a o) := by
  have S1 : SR K C ⟨Z.M, fun b => b = a ∨ Z.W b⟩ m σ (upd H a o) := S.grow (same_new h) (fun _ z => .inr z) (fun b z => z.elim (fun q => .inr (by rw [q]; exact ⟨h, by rw [upd_same]; simp⟩)) .inl) (fun _ z => z) fun b z => ⟨.inr (S.mw b z), .inl z⟩
  refine S1.ctx rfl rfl rfl S1.lkd fun b hb => ?_
  rcases List.mem_cons.mp hb with rfl | hb
  · refine ⟨.inl rfl, fun z => S.none_out h (S.mw _ z), S.new0 h, fun i t d e n z => ?_⟩
    obtain ⟨u, h1, h2, h3, _⟩ := S.own i t d e n
    rw [z] at h1
    cases h1
    obtain ⟨o', ho⟩ := h3.there
    rw [h] at ho; cases ho
  · exact S1.res b hb
theorem SR.resWrite (S : SR K C Z m σ H) (hr : a ∈ C.res) {o : HO} : SR K C Z m σ (upd H a o) := by
  obtain ⟨r1, r2, r3, r4⟩ := S.res a hr
  have ks : Ks H Z.W (upd H a o) Z.W := ⟨fun b x n q => by rw [upd_ne (fun z => n (by rw [z]; exact r1))]; exact q, fun _ z => .inl z⟩
  refine ⟨S.len, fun i d e => ?_, fun i t d e n => ?_, S.inj, S.base, fun b x q n => ?_, S.mr, S.mw, fun b z => ?_, S.w0d, S.r0, S.lck, S.res, S.lkd, S.byr⟩
  · obtain ⟨v, h1, h2⟩ := S.shr i d e
    exact ⟨v, h1, h2.ks ks⟩
  · obtain ⟨b, h1, h2, h3, h4⟩ := S.own i t d e n
    have nb : b ≠ a := fun z => r4 i t d e n (by rw [← z]; exact h1)
    exact ⟨b, h1, h2, h3.ks ks (upd_ne nb), h4⟩
  · rw [upd_ne (fun z => by rw [z, r3] at q; cases q)]
    exact S.keep b x q n
  · by_cases hb : b = a
    · rw [hb, upd_same]; simp
    · rw [upd_ne hb]; exact S.wdom b z
/-- it is done: it is a new object -/
theorem SR.resNew (S : SR K C Z m σ H) (h : H a = none) : a ∉ C.res := fun q => S.wdom a (S.res a q).1 h
theorem SR.finish (S : SR K (C.rs a) Z m σ H) (na : a ∉ C.res) : SR K C ⟨Z.M, fun b => Z.W b ∧ b ≠ a⟩ m σ H ∧ SR K C (Zn.add ⟨Z.M, fun b => Z.W b ∧ b ≠ a⟩ a) m σ H := by
  obtain ⟨r1, r2, r3, r4⟩ := S.res a List.mem_cons_self
  have S0 : SR K C Z m σ H := S.ctx rfl rfl rfl S.lkd fun b hb => S.res b (List.mem_cons_of_mem _ hb)
  have ks1 : Ks H Z.W H fun b => Z.W b ∧ b ≠ a := .sub fun b z => z.1
  have ks2 : Ks H Z.W H fun b => b = a ∨ (Z.W b ∧ b ≠ a) := .sub fun b z => z.elim (fun q => by rw [q]; exact r1) (·.1)
  have no : ∀ {i : Nat} {t : Tag} {d : D} {b : Addr}, m[i]? = some (some (t, d)) → t ≠ .shr → σ[i]? = some (some (.ref b)) → b ≠ a := fun e n h z => r4 _ _ _ e n (by rw [← z]; exact h)
  have w0 : ∀ b, C.W0 b → b ≠ a := fun b z q => S0.w0d b z (by rw [q]; exact r3)
  refine ⟨⟨S0.len, fun i d e => ?_, fun i t d e n => ?_, S0.inj, fun b z => ⟨S0.base b z, w0 b z⟩, S0.keep, S0.mr, fun b z => ⟨S0.mw b z, fun q => r2 (by rw [← q]; exact z)⟩, fun b z => S0.wdom b z.1, S0.w0d, S0.r0, S0.lck, fun b hb => ?_, S0.lkd, S0.byr⟩,
    ⟨S0.len, fun i d e => ?_, fun i t d e n => ?_, S0.inj, fun b z => .inr ⟨S0.base b z, w0 b z⟩, S0.keep, fun b z => ?_, fun b z => ?_, fun b z => ?_, S0.w0d, S0.r0, fun i t d b e n h z => ?_, fun b hb => ?_, S0.lkd, S0.byr⟩⟩
  · obtain ⟨v, h1, h2⟩ := S0.shr i d e
    exact ⟨v, h1, h2.ks ks1⟩
  · obtain ⟨b, h1, h2, h3, h4⟩ := S0.own i t d e n
    exact ⟨b, h1, ⟨h2, no e n h1⟩, h3.ks ks1 rfl, h4⟩
  · obtain ⟨q1, q2, q3, q4⟩ := S0.res b hb
    exact ⟨⟨q1, fun z => na (by rw [← z]; exact hb)⟩, q2, q3, q4⟩
  · obtain ⟨v, h1, h2⟩ := S0.shr i d e
    exact ⟨v, h1, h2.ks ks2⟩
  · obtain ⟨b, h1, h2, h3, h4, h5⟩ := S0.own i t d e n
    exact ⟨b, h1, .inr ⟨h2, no e n h1⟩, h3.ks ks2 rfl, fun z => .inr (h4 z), h5⟩
  · rcases z with z | z
    · exact .inr (by rw [z]; exact r3)
    · exact S0.mr b z
  · rcases z with z | z
    · exact .inl z
    · exact .inr ⟨S0.mw b z, fun q => r2 (by rw [← q]; exact z)⟩
  · rcases z with z | z
    · rw [z]; exact S0.wdom a r1
    · exact S0.wdom b z.1
  · rcases z with z | z
    · exact no e (by rcases n with h | h <;> (rw [h]; decide)) h z
    · exact S0.lck i t d b e n h z
  · obtain ⟨q1, q2, q3, q4⟩ := S0.res b hb
    have nb : b ≠ a := fun z => na (by rw [← z]; exact hb)
    exact ⟨.inr ⟨q1, nb⟩, fun z => z.elim nb q2, q3, q4⟩
end

/-! ### [elt for tg in iter if ..] -/
def qYes : TF := fun m => some (true, m)
abbrev MTs (X : Cx) (ifs : List Expr) (f : TF) : Prop := PTs X ifs (tT X.K f)
theorem mts_nil {X : Cx} : MTs X [] qYes := ⟨fun pins s σ H Q I ⟨C, Z, m, b, m', S, e, k⟩ => by
  cases e
  exact pts_nil.run pins s σ H Q I (k H Z .refl S)⟩
theorem mts_one {X : Cx} {c : Expr} {f : TF} (h : MT X c f) : MTs X [c] f := pts_one h
def lcL (vs : List Nat) (tg : GF) (tt : TF) (el : EF) : List D → MS → List D → Option (List D × MS)
  | [], m, acc => some (acc, m)
  | d :: ds, m, acc => match tg d m with
    | some m1 => match tt m1 with
      | some (true, m2) => match el m2 with
        | some (p, m3) => match force p m3 with
          | some (d', m4) => if okWipe m4 vs && decide (acc.length < sizeLine) then lcL vs tg tt el ds (wipeM m4 vs) (acc ++ [d']) else none
          | none => none
        | none => none
      | some (false, m2) => if okWipe m2 vs then lcL vs tg tt el ds (wipeM m2 vs) acc else none
      | none => none
    | none => none
def mLc (vs : List Nat) (it : IF) (tg : GF) (tt : TF) (el : EF) : EF := fun m => match it m with
  | some (ds, m1, bk) => if okWipe m1 vs then (match lcL vs tg tt el ds (wipeM m1 vs) [] with
    | some (acc, m2) => match unlockM (restM m1 m2 vs) bk with
      | some m3 => some (.fresh (.lst acc), m3)
      | none => none
    | none => none) else none
  | none => none
theorem ev_at {Z Z' : Zn} {H H' : Hp} {a : Addr} {o : HO} (E : Ev Z H Z' H') (n : H a = none) : Ev Z H Z' (upd H' a o) := by
  refine ⟨fun b x nb e => ?_, E.m, E.w, fun b e => ?_⟩
  · rw [upd_ne (fun z => by rw [z, n] at e; cases e)]
    exact E.h b x nb e
  · by_cases hb : b = a
    · rw [hb, upd_same]; simp
    · rw [upd_ne hb]; exact E.d b e
section
variable {X : Cx} {elt tg iter : Expr} {ifs : List Expr} {scope : Scope} {own : List (Str × Nat)} {pos : Pos} {fit : IF} {ts : List Nat} {gf : GF} {tt : TF} {el : EF}
theorem tE_lc {σ : L2.St} {H : Hp} {Q : VK} {vs : List Nat} (hv : ∀ i ∈ ts, i ∈ vs) (h : tE X.K (mLc vs fit gf tt el) σ H Q) : tLc (tI X.K fit) (tG X.K ts gf) (tT X.K tt) (tE X.K el) vs σ H Q := by
  obtain ⟨C, Z, m, p, m', S, e, k⟩ := h
  unfold mLc at e
  split at e
  · rename_i ds m1 bk e1
    split at e
    · rename_i ok1
      split at e
      · rename_i accF mF e2
        split at e
        · rename_i m3 e3
          cases e
          refine ⟨C, Z, m, ds, m1, bk, S, e1, fun J H1 Z1 E1 S1 ok bko D0 hD => ?_⟩
          have na : D0 ∉ C.res := S1.resNew hD
          have bko' : BkOk (C.rs D0) Z H m1 σ bk := bko
          have Sb : SR X.K ((C.rs D0).lk σ bk) ⟨Z1.M, fun b => b = D0 ∨ Z1.W b⟩ m1 σ (upd H1 D0 (.lst [])) := (S1.begin hD).lkIn bko'
          have Sw := Sb.wipeS ok1
          have ev0 : Ev Z1 H1 ⟨Z1.M, fun b => b = D0 ∨ Z1.W b⟩ (upd H1 D0 (.lst [])) := ⟨fun b x n q => same_new hD b x q, fun b z => .inl z, fun b z => z.elim (fun q => .inr (by rw [q]; exact hD)) .inl, fun b z q => by
            by_cases hb : b = D0
            · rw [hb, upd_same] at q; cases q
            · rw [upd_ne hb] at q; exact z q⟩
          have hres : D0 ∈ ((C.rs D0).lk σ bk).res := by rw [lk_res]; exact List.mem_cons_self
          refine ⟨fun i mm H2 => mm = ds.length - i ∧ i ≤ ds.length ∧ ∃ Z2 n acc av, Ev Z1 H1 Z2 H2 ∧ SR X.K ((C.rs D0).lk σ bk) Z2 n (wipe σ vs) H2 ∧ H2 D0 = some (.lst av) ∧ Reps X.K H2 Z2.W av acc ∧ lcL vs gf tt el (ds.drop i) n acc = some (accF, mF), ⟨_, rfl, Nat.zero_le _, _, _, [], [], ev0, Sw, upd_same, .nil, e2⟩, ?_⟩
          rintro i mm H2 ⟨rfl, hi, Z2, n, acc, av, E2, S2, hD2, racc, eL⟩
          have okk := ok H2 Z2 E2 S2.wdom i
          by_cases hlt : i < ds.length
          · obtain ⟨go, yl⟩ := okk.1 ds[i] (List.getElem?_eq_getElem hlt)
            rw [List.drop_eq_getElem_cons hlt] at eL
            unfold lcL at eL
            split at eL
            · rename_i n1 en1
              refine .inr ⟨go, fun H6 => ∃ Z6 n6 acc6 av6, Ev Z1 H1 Z6 H6 ∧ SR X.K ((C.rs D0).lk σ bk) Z6 n6 (wipe σ vs) H6 ∧ H6 D0 = some (.lst av6) ∧ Reps X.K H6 Z6.W av6 acc6 ∧ lcL vs gf tt el (ds.drop (i + 1)) n6 acc6 = some (accF, mF), fun H6 ⟨Z6, n6, acc6, av6, w1, w2, w3, w4, w5⟩ => ⟨_, by omega, rfl, hlt, Z6, n6, acc6, av6, w1, w2, w3, w4, w5⟩, fun x H3 y => ?_⟩
              obtain ⟨rfl, rep⟩ := yl x H3 y
              refine ⟨_, Z2, n, ds[i], n1, S2, rep, en1, fun σ3 H4 Z4 E4 S4 w4 => ?_⟩
              have wv : wipe σ3 vs = wipe σ vs := (w4 vs hv).trans (wipe_idem σ vs)
              refine ⟨wv, ?_⟩
              split at eL
              · rename_i n2 en2
                refine ⟨_, Z4, n1, true, n2, S4, en2, fun H5 Z5 E5 S5 => ?_⟩
                split at eL
                · rename_i p n3 en3
                  split at eL
                  · rename_i d' n4 en4
                    split at eL
                    · rename_i g
                      rw [Bool.and_eq_true, decide_eq_true_eq] at g
                      refine iteT (tE_one S5 en3 fun v H6 Z6 E6 S6 r6 => ?_)
                      obtain ⟨Z7, E7, S7, r7⟩ := S6.force r6 en4
                      have E27 := ((E4.trans E5).trans E6).trans E7
                      have nm := (S2.res D0 hres).2.1
                      have hD6 : H6 D0 = some (.lst av) := E27.h D0 _ nm hD2
                      have w7 := (S7.res D0 hres).1
                      have ks7 : Ks H6 Z7.W (upd H6 D0 (.lst (av ++ [v]))) Z7.W := ⟨fun b o nb q => by rw [upd_ne (fun z => nb (by rw [z]; exact w7))]; exact q, fun _ z => .inl z⟩
                      refine ⟨av, hD6, by rw [racc.length]; exact g.2, Z7, wipeM n4 vs, acc ++ [d'], av ++ [v], ev_at (E2.trans E27) hD, ?_, upd_same, ?_, eL⟩
                      · rw [← wv]
                        exact (S7.resWrite hres).wipeS g.1
                      · exact ((racc.ks (S2.ks E27)).append (.cons r7 .nil)).ks ks7
                    · cases eL
                  · cases eL
                · cases eL
              · rename_i n2 en2
                split at eL
                · rename_i g
                  refine ⟨_, Z4, n1, false, n2, S4, en2, fun H5 Z5 E5 S5 => iteF ?_⟩
                  have E25 := E4.trans E5
                  have nm := (S2.res D0 hres).2.1
                  refine ⟨Z5, wipeM n2 vs, acc, av, E2.trans E25, ?_, E25.h D0 _ nm hD2, racc.ks (S2.ks E25), eL⟩
                  rw [← wv]
                  exact S5.wipeS g
                · cases eL
              · cases eL
            · cases eL
          · have he : i = ds.length := by omega
            subst he
            rw [List.drop_length] at eL
            cases eL
            refine .inl ⟨okk.2 (Nat.le_refl _), ?_⟩
            have Sr := S1.restore E2 S2 ok1
            obtain ⟨Z3, E3, S3, w3⟩ := Sr.lkEnd bko' (E1.trans E2) e3
            obtain ⟨Sa, Sb'⟩ := S3.finish na
            have h0 : H D0 = none := by
              cases q : H D0 with
              | none => rfl
              | some o => exact absurd hD (E1.d D0 (by rw [q]; simp))
            refine k (.ref D0) H2 ⟨Z3.M, fun b => Z3.W b ∧ b ≠ D0⟩ ⟨E3.h, E3.m, fun b z => E3.w b z.1, E3.d⟩ Sa ⟨D0, rfl, fun z => z.2 rfl, h0, S1.new0 hD, Sb', av, hD2, racc.ks (.sub fun b z => ?_)⟩
            rw [← w3]
            rcases z with z | z
            · rw [z, w3]; exact (S2.res D0 hres).1
            · exact z.1
        · cases e
      · cases e
    · cases e
  · cases e
theorem me_lc (hc : X.calm = true) (hN : X.N.Nodup) (hi : MI X tg iter fit) (ok : BlkOk X.N X.env.scope scope own) (hv : ∀ i ∈ ts, i ∈ own.map (·.2))
    (hg : ∀ (s : Shared) (H : Hp) (C : Addr) (cl : List (Str × Addr)) (fp : List Addr), MG (X.blk s H scope (compEnvC scope cl C X.env) fp) tg ts gf) (ht : ∀ (s : Shared) (H : Hp) (C : Addr) (cl : List (Str × Addr)) (fp : List Addr), MTs (X.blk s H scope (compEnvC scope cl C X.env) fp) ifs tt)
    (he : ∀ (s : Shared) (H : Hp) (C : Addr) (cl : List (Str × Addr)) (fp : List Addr), ME (X.blk s H scope (compEnvC scope cl C X.env) fp) elt el) (hs : ∀ x, foldedSetIterable iter X.env x = pure x := by intro _; rfl) :
    ME X (.ListComp elt [⟨tg, iter, ifs, 0⟩] scope pos) (mLc (own.map (·.2)) fit gf tt el) := (pe_lc hc hN hi ok hg ht he hs).weak fun σ H Q h => tE_lc hv h
/-- name = [..] on one line -/
theorem ms_setLc {i : Nat} {y : Str} {py spos : Pos} {ow : Bool} (hc : X.calm = true) (hN : X.N.Nodup) (hy : X.N[i]? = some y) (hyl : X.env.scope.names.lookup y = some .local)
    (hsw : swapsWith (.ListComp elt [⟨tg, iter, ifs, 0⟩] scope pos) (some (.Name y py)) spos.line X.env = pure true) (hi : MI X tg iter fit) (ok : BlkOk X.N X.env.scope scope own) (hv : ∀ i ∈ ts, i ∈ own.map (·.2))
    (hg : ∀ (s : Shared) (H : Hp) (C : Addr) (cl : List (Str × Addr)) (fp : List Addr), MG (X.blk s H scope (compEnvC scope cl C X.env) fp) tg ts gf) (ht : ∀ (s : Shared) (H : Hp) (C : Addr) (cl : List (Str × Addr)) (fp : List Addr), MTs (X.blk s H scope (compEnvC scope cl C X.env) fp) ifs tt)
    (he : ∀ (s : Shared) (H : Hp) (C : Addr) (cl : List (Str × Addr)) (fp : List Addr), ME (X.blk s H scope (compEnvC scope cl C X.env) fp) elt el) (hs : ∀ x, foldedSetIterable iter X.env x = pure x := by intro _; rfl) :
    MSt X (.Assign [.Name y py] (.ListComp elt [⟨tg, iter, ifs, 0⟩] scope pos) spos) (sSet i ow (mLc (own.map (·.2)) fit gf tt el)) :=
  (ps_setLc hc hN hy hyl hsw hi ok hg ht he hs).weak fun D σ H h => by
    obtain ⟨C, Z, m, fl, m', S, e, k⟩ := h
    unfold sSet at e
    split at e
    · rename_i p m1 e1
      split at e
      · rename_i m2 e2
        cases e
        exact tE_lc hv (tE_one S e1 fun v H1 Z1 E1 S1 r1 => by
          obtain ⟨Z2, E2, S2⟩ := put_ok E1 S1 r1 e2
          exact k _ H1 Z2 E2 S2)
      · cases e
    · cases e
end
end VL

set_option Elab.async false
set_option linter.all false
set_option maxRecDepth 100000
set_option autoImplicit false
/-! The value layer, part 12: defs and their calls. -/
namespace VL
open PySem PySem.Spec L2

mutual
/-- no list, no dict within -/
@[simp] def noLst : D → Bool
  | .tup ds => noLsts ds
  | .lst _ => false
  | .dct _ _ => false
  | .frz _ => false
  | _ => true
@[simp] def noLsts : List D → Bool
  | [] => true
  | d :: ds => noLst d && noLsts ds
end
/-- the addresses handed by reference -/
def refs : List Bool → List V → List Addr
  | true :: bs, .ref a :: vs => a :: refs bs vs
  | _ :: bs, _ :: vs => refs bs vs
  | _, _ => []
def ArgsOk (K : PySem.W.Frag) (H : Hp) (W : AS) : List Bool → List V → List D → Prop
  | [], [], [] => True
  | b :: bs, v :: vs, d :: ds => (if b = true then ∃ a, v = .ref a ∧ W a ∧ Own K H W a d else Rep K H W v d) ∧ ArgsOk K H W bs vs ds
  | _, _, _ => False
def OwnAll (K : PySem.W.Frag) (H : Hp) (W : AS) : List Addr → List D → Prop
  | [], [] => True
  | a :: as, d :: ds => Own K H W a d ∧ OwnAll K H W as ds
  | _, _ => False
def ResOk (K : PySem.W.Frag) (H : Hp) (W : AS) (H' : Hp) (v : V) : P → Prop
  | .val d => Rep K H' W v d
  | .fresh d => ∃ a, v = .ref a ∧ H a = none ∧ Own K H' (fun b => b = a ∨ W b) a d
  | .bor _ => False
abbrev DF := List D → Option (P × List D)
/-- THE PROMISE of a def by a function on data -/
def spF (K : PySem.W.Frag) (modes : List Bool) (F : DF) : Sp := fun vs H Q _ => ∃ (W : AS) (ds : List D) (r : P) (rs : List D), (∀ b, W b → H b ≠ none) ∧ ArgsOk K H W modes vs ds ∧ (refs modes vs).Nodup ∧ F ds = some (r, rs) ∧
  ∀ v H', (∀ b o, b ∉ refs modes vs → H b = some o → H' b = some o) → (∀ b, H b ≠ none → H' b ≠ none) → ResOk K H W H' v r → OwnAll K H' W (refs modes vs) rs → Q v H'
/-- the state at the entry: parameters, other names -/
@[simp] def entry : List Bool → List D → Nat → MS
  | b :: bs, d :: ds, n => some (if b then .byr else .shr, d) :: entry bs ds n
  | _, _, n => List.replicate n none
/-- what stands at the end in what was handed by reference -/
@[simp] def outs : List Bool → Nat → MS → Option (List D)
  | true :: bs, i, m => match sl m i, outs bs (i + 1) m with
    | some (_, d), some ds => some (d :: ds)
    | _, _ => none
  | false :: bs, i, m => outs bs (i + 1) m
  | [], _, _ => some []
/-- a def as a function on data: n other names -/
def defF (modes : List Bool) (n : Nat) (g : SF) : DF := fun ds => if ds.length = modes.length then (match g (entry modes ds n) with
  | some (.rt p, m') => match outs modes 0 m' with
    | some rs => some (p, rs)
    | none => none
  | some (.nx, m') => match outs modes 0 m' with
    | some rs => some (.val .non, rs)
    | none => none
  | _ => none) else none

section
variable {K : PySem.W.Frag} {H H' : Hp} {W : AS}
theorem argsOk_len : ∀ {bs : List Bool} {vs : List V} {ds : List D}, ArgsOk K H W bs vs ds → vs.length = bs.length ∧ ds.length = bs.length
  | [], [], [], _ => ⟨rfl, rfl⟩
  | b :: bs, v :: vs, d :: ds, h => by
    obtain ⟨h1, h2⟩ := argsOk_len h.2
    exact ⟨congrArg (· + 1) h1, congrArg (· + 1) h2⟩
  | [], [], _ :: _, h => h.elim
  | [], _ :: _, _, h => h.elim
  | _ :: _, [], _, h => by cases h
  | _ :: _, _ :: _, [], h => h.elim
/-- the slots by reference -/
def refSl : List Bool → List V → Nat → List (Nat × Addr)
  | true :: bs, .ref a :: vs, i => (i, a) :: refSl bs vs (i + 1)
  | _ :: bs, _ :: vs, i => refSl bs vs (i + 1)
  | _, _, _ => []
theorem refSl_refs : ∀ (bs : List Bool) (vs : List V) (i : Nat), (refSl bs vs i).map (·.2) = refs bs vs
  | [], _, _ => by cases ‹List V› <;> rfl
  | _ :: _, [], _ => by cases ‹Bool› <;> rfl
  | true :: bs, .ref a :: vs, i => by
    show a :: (refSl bs vs (i + 1)).map (·.2) = a :: refs bs vs
    rw [refSl_refs bs vs (i + 1)]
  | false :: bs, v :: vs, i => by
    have : refSl (false :: bs) (v :: vs) i = refSl bs vs (i + 1) := by cases v <;> rfl
    rw [this, refSl_refs bs vs (i + 1)]
    cases v <;> rfl
  | true :: bs, .non :: vs, i => refSl_refs bs vs (i + 1)
  | true :: bs, .bl _ :: vs, i => refSl_refs bs vs (i + 1)
  | true :: bs, .int _ :: vs, i => refSl_refs bs vs (i + 1)
  | true :: bs, .str _ :: vs, i => refSl_refs bs vs (i + 1)
  | true :: bs, .byt _ :: vs, i => refSl_refs bs vs (i + 1)
  | true :: bs, .flt _ :: vs, i => refSl_refs bs vs (i + 1)
  | true :: bs, .ty _ :: vs, i => refSl_refs bs vs (i + 1)
/-- what stands at each slot at the entry -/
theorem entry_get {n : Nat} : ∀ {bs : List Bool} {vs : List V} {ds : List D} {i : Nat} {t : Tag} {d : D}, ArgsOk K H W bs vs ds → (entry bs ds n)[i]? = some (some (t, d)) →
    ∃ v, vs[i]? = some v ∧ ((t = .shr ∧ bs[i]? = some false ∧ Rep K H W v d) ∨ (t = .byr ∧ bs[i]? = some true ∧ ∃ a, v = .ref a ∧ W a ∧ Own K H W a d))
  | [], [], [], i, t, d, _, e => by
    have e : (List.replicate n (none : Option (Tag × D)))[i]? = some (some (t, d)) := e
    rw [List.getElem?_replicate] at e
    split at e <;> cases e
  | b :: bs, v :: vs, d' :: ds, 0, t, d, h, e => by
    have e : some (some (if b = true then Tag.byr else Tag.shr, d')) = some (some (t, d)) := e
    cases e
    refine ⟨v, rfl, ?_⟩
    cases b with
    | true => exact .inr ⟨rfl, rfl, by simpa using h.1⟩
    | false => exact .inl ⟨rfl, rfl, by simpa using h.1⟩
  | b :: bs, v :: vs, d' :: ds, i + 1, t, d, h, e => by
    obtain ⟨u, h1, h2⟩ := entry_get (i := i) h.2 (by simpa using show (some (if b = true then Tag.byr else Tag.shr, d') :: entry bs ds n)[i + 1]? = some (some (t, d)) from e)
    exact ⟨u, by simpa using h1, by simpa using h2⟩
  | [], [], _ :: _, _, _, _, h, _ => h.elim
  | [], _ :: _, _, _, _, _, h, _ => h.elim
  | _ :: _, [], _, _, _, _, h, _ => by cases h
  | _ :: _, _ :: _, [], _, _, _, h, _ => h.elim
theorem entry_len {n : Nat} : ∀ {bs : List Bool} {ds : List D}, ds.length = bs.length → (entry bs ds n).length = bs.length + n
  | [], [], _ => by show (List.replicate n none).length = _; rw [List.length_replicate, List.length_nil, Nat.zero_add]
  | b :: bs, d :: ds, h => by
    show (entry bs ds n).length + 1 = bs.length + 1 + n
    rw [entry_len (by simpa using h)]
    omega
theorem refSl_mem : ∀ {bs : List Bool} {vs : List V} {k : Nat} {p : Nat × Addr}, p ∈ refSl bs vs k → ∃ i, p.1 = k + i ∧ bs[i]? = some true ∧ vs[i]? = some (.ref p.2)
  | [], vs, k, p, h => by cases vs <;> cases h
  | b :: bs, [], k, p, h => by cases b <;> cases h
  | b :: bs, v :: vs, k, p, h => by
    have tail : p ∈ refSl bs vs (k + 1) → ∃ i, p.1 = k + i ∧ (b :: bs)[i]? = some true ∧ (v :: vs)[i]? = some (.ref p.2) := fun h => by
      obtain ⟨i, h1, h2, h3⟩ := refSl_mem h
      exact ⟨i + 1, by omega, by simpa using h2, by simpa using h3⟩
    cases b with
    | false => exact tail (by cases v <;> exact h)
    | true =>
      cases v with
      | ref a =>
        rcases List.mem_cons.mp (show p ∈ (k, a) :: refSl bs vs (k + 1) from h) with rfl | h
        · exact ⟨0, rfl, rfl, rfl⟩
        · exact tail h
      | _ => exact tail h
theorem mem_refSl : ∀ {bs : List Bool} {vs : List V} {k i : Nat} {a : Addr}, bs[i]? = some true → vs[i]? = some (.ref a) → (k + i, a) ∈ refSl bs vs k
  | [], _, _, _, _, h, _ => by simp at h
  | _ :: _, [], _, _, _, _, h => by simp at h
  | b :: bs, v :: vs, k, 0, a, h1, h2 => by
    simp at h1 h2
    subst h1; subst h2
    exact List.mem_cons_self
  | b :: bs, v :: vs, k, i + 1, a, h1, h2 => by
    have := mem_refSl (k := k + 1) (i := i) (a := a) (by simpa using h1) (by simpa using h2)
    rw [show k + (i + 1) = k + 1 + i by omega]
    cases b with
    | false => cases v <;> exact this
    | true => cases v <;> first | exact List.mem_cons_of_mem _ this | exact this
theorem entry_at {n : Nat} : ∀ {bs : List Bool} {vs : List V} {ds : List D} {i : Nat}, ArgsOk K H W bs vs ds → bs[i]? = some true → ∃ d, (entry bs ds n)[i]? = some (some (.byr, d))
  | [], _, _, _, _, h => by simp at h
  | b :: bs, v :: vs, d :: ds, 0, _, h => by
    simp at h
    subst h
    exact ⟨d, rfl⟩
  | b :: bs, v :: vs, d :: ds, i + 1, h, e => by
    obtain ⟨d', h1⟩ := entry_at (n := n) (i := i) h.2 (by simpa using e)
    refine ⟨d', ?_⟩
    show (some (if b = true then Tag.byr else Tag.shr, d) :: entry bs ds n)[i + 1]? = some (some (.byr, d'))
    rw [List.getElem?_cons_succ]
    exact h1
  | _ :: _, [], _, _, h, _ => by cases h
  | _ :: _, _ :: _, [], _, h, _ => h.elim
theorem start_get {N : List Str} {vs : List V} {i : Nat} {v : V} (h : vs[i]? = some v) : (L2.start N vs)[i]? = some (some v) := by
  unfold L2.start
  rw [List.getElem?_append_left (by rw [List.length_map]; exact lt_of_get h), List.getElem?_map, h]
  rfl
theorem start_len {N : List Str} {vs : List V} (h : vs.length ≤ N.length) : (L2.start N vs).length = N.length := by
  unfold L2.start
  rw [List.length_append, List.length_map, List.length_replicate]
  omega
theorem nodup_refSl {bs : List Bool} {vs : List V} (nd : (refs bs vs).Nodup) {i j : Nat} {a : Addr} (hi : bs[i]? = some true) (vi : vs[i]? = some (.ref a)) (hj : bs[j]? = some true) (vj : vs[j]? = some (.ref a)) : i = j := by
  have h1 := mem_refSl (k := 0) hi vi
  have h2 := mem_refSl (k := 0) hj vj
  rw [Nat.zero_add] at h1 h2
  have nd' : ((refSl bs vs 0).map (·.2)).Nodup := by rw [refSl_refs]; exact nd
  have key : ∀ {l : List (Nat × Addr)}, (l.map (·.2)).Nodup → ∀ {p q : Nat × Addr}, p ∈ l → q ∈ l → p.2 = q.2 → p = q := by
    intro l
    induction l with
    | nil => intro _ p q h; cases h
    | cons x l ih =>
      intro nd p q hp hq e
      rw [List.map_cons, List.nodup_cons] at nd
      rcases List.mem_cons.mp hp with h1 | h1
      · rcases List.mem_cons.mp hq with h2 | h2
        · rw [h1, h2]
        · exact absurd (List.mem_map.mpr ⟨q, h2, by rw [← e, h1]⟩) nd.1
      · rcases List.mem_cons.mp hq with h2 | h2
        · exact absurd (List.mem_map.mpr ⟨p, h1, by rw [e, h2]⟩) nd.1
        · exact ih nd.2 h1 h2 e
  exact congrArg Prod.fst (key nd' h1 h2 rfl)
/-- the state at a def's entry -/
theorem entry_SR {n : Nat} {N : List Str} {bs : List Bool} {vs : List V} {ds : List D} (wd : ∀ b, W b → H b ≠ none) (h : ArgsOk K H W bs vs ds) (nd : (refs bs vs).Nodup) (hn : N.length = bs.length + n) :
    SR K ⟨W, H, refSl bs vs 0, [], []⟩ ⟨fun b => b ∈ refs bs vs, W⟩ (entry bs ds n) (L2.start N vs) H := by
  obtain ⟨l1, l2⟩ := argsOk_len h
  have inR : ∀ {i : Nat} {a : Addr}, bs[i]? = some true → vs[i]? = some (.ref a) → a ∈ refs bs vs := fun h1 h2 => by
    rw [← refSl_refs bs vs 0]
    exact List.mem_map.mpr ⟨_, mem_refSl (k := 0) h1 h2, rfl⟩
  have outR : ∀ {a : Addr}, a ∈ refs bs vs → ∃ (i : Nat), bs[i]? = some true ∧ vs[i]? = some (V.ref a) := fun h1 => by
    rw [← refSl_refs bs vs 0] at h1
    obtain ⟨p, hp, rfl⟩ := List.mem_map.mp h1
    obtain ⟨i, _, h2, h3⟩ := refSl_mem hp
    exact ⟨i, h2, h3⟩
  have rW : ∀ {a : Addr}, a ∈ refs bs vs → W a := fun h1 => by
    obtain ⟨i, h2, h3⟩ := outR h1
    obtain ⟨d, e⟩ := entry_at (n := 0) h h2
    obtain ⟨v, h4, h5⟩ := entry_get h e
    rw [h3] at h4
    cases h4
    rcases h5 with ⟨q, _⟩ | ⟨_, _, a, q, w, _⟩
    · cases q
    · cases q; exact w
  have eR : ∀ b, (Ct.mk W H (refSl bs vs 0) [] []).R b ↔ b ∈ refs bs vs := fun b => by
    unfold Ct.R
    rw [← refSl_refs bs vs 0]
    constructor
    · rintro ⟨i, hi⟩; exact List.mem_map.mpr ⟨_, hi, rfl⟩
    · intro hb
      obtain ⟨p, hp, rfl⟩ := List.mem_map.mp hb
      exact ⟨p.1, hp⟩
  refine ⟨by rw [entry_len l2, start_len (by omega)]; exact hn.symm, fun i d e => ?_, fun i t d e nt => ?_, fun i j ti tj di dj a q1 q2 n1 n2 s1 s2 => ?_, fun _ z => z, fun _ _ q _ => q, fun b z => .inl ((eR b).mpr z), fun b z => rW z, wd, wd, fun b z => rW ((eR b).mp z), fun i t d a e nt s => ?_, fun _ z => (by cases z), fun _ z => (by cases z), fun p hp => ?_⟩
  · obtain ⟨v, h1, h2⟩ := entry_get h e
    rcases h2 with ⟨_, _, r⟩ | ⟨q, _⟩
    · exact ⟨v, start_get h1, r⟩
    · cases q
  · obtain ⟨v, h1, h2⟩ := entry_get h e
    rcases h2 with ⟨q, _⟩ | ⟨rfl, hb, a, rfl, w, o⟩
    · exact absurd q nt
    · exact ⟨a, start_get h1, w, o, fun _ => inR hb h1, fun z => (by rcases z with z | z <;> cases z), fun _ => (eR a).mpr (inR hb h1)⟩
  · obtain ⟨v, g1, g2⟩ := entry_get h q1
    obtain ⟨u, k1, k2⟩ := entry_get h q2
    rw [start_get g1] at s1
    rw [start_get k1] at s2
    cases s1; cases s2
    rcases g2 with ⟨q, _⟩ | ⟨_, gb, _⟩
    · exact absurd q n1
    · rcases k2 with ⟨q, _⟩ | ⟨_, kb, _⟩
      · exact absurd q n2
      · exact nodup_refSl nd gb g1 kb k1
  · obtain ⟨v, h1, h2⟩ := entry_get h e
    rcases h2 with ⟨q, _⟩ | ⟨q, _⟩ <;> (rw [q] at nt; rcases nt with z | z <;> cases z)
  · obtain ⟨i, e1, h2, h3⟩ := refSl_mem hp
    rw [Nat.zero_add] at e1
    obtain ⟨d, e⟩ := entry_at (n := n) h h2
    exact ⟨.byr, d, .inl rfl, by rw [e1]; exact e, by rw [e1]; exact start_get h3⟩
/-- at the end -/
theorem outs_own {C : Ct} {Z : Zn} {m : MS} {σ : L2.St} (S : SR K C Z m σ H') (hw : C.W0 = W) : ∀ {bs : List Bool} {vs : List V} {k : Nat} {rs : List D}, vs.length = bs.length → (∀ (i : Nat), bs[i]? = some true → ∃ a, vs[i]? = some (V.ref a)) → (∀ p ∈ refSl bs vs k, p ∈ C.args) → outs bs k m = some rs → OwnAll K H' W (refs bs vs) rs
  | [], vs, k, rs, l, _, _, e => by
    cases e
    cases vs with
    | nil => trivial
    | cons _ _ => cases l
  | b :: bs, [], _, _, l, _, _, _ => by cases l
  | false :: bs, v :: vs, k, rs, l, hr, hs, e => by
    have ih := outs_own (bs := bs) (vs := vs) (k := k + 1) S hw (by simpa using l) (fun i h => by simpa using hr (i + 1) (by simpa using h)) (fun p hp => hs p (by cases v <;> exact hp)) e
    cases v <;> exact ih
  | true :: bs, v :: vs, k, rs, l, hr, hs, e => by
    obtain ⟨a, ha⟩ := hr 0 rfl
    have ha : v = .ref a := by simpa using ha
    subst ha
    unfold outs at e
    split at e
    · rename_i t d ds e1 e2
      cases e
      refine ⟨?_, outs_own S hw (by simpa using l) (fun i h => by simpa using hr (i + 1) (by simpa using h)) (fun p hp => hs p (List.mem_cons_of_mem _ hp)) e2⟩
      obtain ⟨t', d', h1, h2, h3⟩ := S.byr (k, a) (hs _ List.mem_cons_self)
      rw [show m[k]? = some (some (t, d)) from sl_get e1] at h2
      cases h2
      obtain ⟨a', g1, _, g3, _⟩ := S.own k t d (sl_get e1) (by rcases h1 with h | h <;> (rw [h]; decide))
      rw [show σ[k]? = some (some (V.ref a)) from h3] at g1
      cases g1
      exact g3.ks (.sub fun b z => S.base b (by rw [hw]; exact z)) rfl
    · cases e
end

/-- a def keeps its promise: by its body's function -/
theorem fn_ok {Pr : Program} {w : World} {K : PySem.W.Frag} {mg : Str → Option Value} {base : Heap} {x qual : Str} {st : Stmt} {f : Addr} {fd : FuncData} {N ps : List Str} {k : Nat} {modes : List Bool} {n : Nat} {g : SF} (F : Fun K x qual st f fd) (S : FnScope N ps (defScope st)) (hm : modes.length = ps.length) (hn : N.length = modes.length + n)
    (hbody : ∀ (cdv : Value) (A : Around) (outer : List Env) (s : Shared) (H : Hp) (E : XK), Room k (A.deeper (PyProof.Rows.envOfC qual (defScope st) s.heap.objs.size f cdv)) → MSs (cxOf CX0 Pr w K mg base N qual (defScope st) f cdv A outer s H E).nox (defBody st) g) :
    FnOk Pr w K mg base CX0 (k + 1) f fd ps (spF K modes (defF modes n g)) := by
  refine F.ok S (fun vs H Q E h => ?_) (fun cdv A outer s H vs Q E hr h => ?_)
  · obtain ⟨W, ds, r, rs, _, h1, _⟩ := h
    rw [← hm]
    exact (argsOk_len h1).1
  · obtain ⟨W, ds, r, rs, wd, ha, nd, e, q⟩ := h
    have S0 := entry_SR (n := n) (N := N) wd ha nd hn
    obtain ⟨l1, l2⟩ := argsOk_len ha
    have isRef : ∀ (i : Nat), modes[i]? = some true → ∃ a, vs[i]? = some (V.ref a) := fun i hi => by
      obtain ⟨d, e⟩ := entry_at (n := 0) ha hi
      obtain ⟨v, h4, h5⟩ := entry_get ha e
      rcases h5 with ⟨q, _⟩ | ⟨_, _, a, q, _⟩
      · cases q
      · exact ⟨a, by rw [h4, q]⟩
    have fin : ∀ {m' : MS} {p : P} {rs' : List D}, outs modes 0 m' = some rs' → p = r → rs' = rs → ∀ σ' H' Z', Ev ⟨fun b => b ∈ refs modes vs, W⟩ H Z' H' → SR K ⟨W, H, refSl modes vs 0, [], []⟩ Z' m' σ' H' → ∀ v, RetV K ⟨W, H, refSl modes vs 0, [], []⟩ H' v p → Q v H' := by
      intro m' p rs' eo ep er σ' H' Z' E' S' v rv
      subst ep; subst er
      refine q v H' (fun b o nb eb => E'.h b o nb eb) E'.d ?_ (outs_own S' rfl l1 isRef (fun p hp => hp) eo)
      cases p with
      | val d => exact rv
      | fresh d => exact rv
      | bor i => exact rv.elim
    refine ⟨tS K g, hbody cdv A outer s H E hr, ?_⟩
    unfold defF at e
    rw [if_pos l2] at e
    split at e
    · rename_i p m' eg
      split at e
      · rename_i rs' eo
        cases e
        exact ⟨_, _, _, _, m', S0, eg, fun σ' H' Z' E' S' v rv => fin eo rfl rfl σ' H' Z' E' S' v rv⟩
      · cases e
    · rename_i m' eg
      split at e
      · rename_i rs' eo
        cases e
        exact ⟨_, _, _, _, m', S0, eg, fun σ' H' Z' E' S' => fin eo rfl rfl σ' H' Z' E' S' .non .non⟩
      · cases e
    · cases e
end VL

set_option Elab.async false
set_option linter.all false
set_option maxRecDepth 100000
set_option autoImplicit false
/-! The value layer, part 13: calls of defs, methods that write, stores. -/
namespace VL
open PySem PySem.Spec L2

/-! ### a call of a def -/
/-- the arguments read; those by reference are lists of one's own -/
@[simp] def argsM : List Bool → List P → MS → Option (List D)
  | [], [], _ => some []
  | true :: bs, .bor i :: ps, m => match sl m i, argsM bs ps m with
    | some (.own, d), some ds => some (d :: ds)
    | some (.byr, d), some ds => some (d :: ds)
    | _, _ => none
  | false :: bs, p :: ps, m => match rd p m, argsM bs ps m with
    | some d, some ds => some (d :: ds)
    | _, _ => none
  | _, _, _ => none
@[simp] def refIx : List Bool → List P → List Nat
  | true :: bs, .bor i :: ps => i :: refIx bs ps
  | _ :: bs, _ :: ps => refIx bs ps
  | _, _ => []
/-- lists of one's own that are only read -/
@[simp] def borIx (m : MS) : List Bool → List P → List Nat
  | false :: bs, .bor i :: ps => match sl m i with
    | some (.shr, _) => borIx m bs ps
    | _ => i :: borIx m bs ps
  | _ :: bs, _ :: ps => borIx m bs ps
  | _, _ => []
@[simp] def setCont (m : MS) : List Nat → List D → Option MS
  | [], [] => some m
  | i :: is, d :: ds => match sl m i with
    | some (t, _) => setCont (m.set i (some (t, d))) is ds
    | none => none
  | _, _ => none
@[simp] def leafD : D → Bool
  | .lst ds => noLsts ds
  | .dct _ ds => noLsts ds
  | _ => false
@[simp] def noLstP : P → Bool
  | .val d => noLst d
  | .fresh d => leafD d
  | .bor _ => false
@[simp] def isValP : P → Bool
  | .val _ => true
  | _ => false
@[simp] def distinct : List Nat → Bool
  | [] => true
  | i :: is => (!is.contains i) && distinct is
def mCall (modes : List Bool) (F : DF) (fs : AF) : EF := fun m => match fs m with
  | some (ps, m1) => match argsM modes ps m1 with
    | some ds => if distinct (refIx modes ps) && ((borIx m1 modes ps).all fun i => !(refIx modes ps).contains i) then (match F ds with
      | some (r, rs) => if ((borIx m1 modes ps).isEmpty || noLstP r) && (rs.all leafD || ((borIx m1 modes ps).isEmpty && isValP r)) then (match setCont m1 (refIx modes ps) rs with
        | some m2 => some (r, m2)
        | none => none) else none
      | none => none) else none
    | none => none
  | none => none

section
variable {K : PySem.W.Frag} {C : Ct} {Z Z' : Zn} {m m' : MS} {σ : L2.St} {H H' : Hp} {W W' : AS}
mutual
theorem Rep.noLst (h : ∀ b, W' b → W b ∨ ∃ o, H b = some o ∧ ∀ q xs, o ≠ .frz q (.tup xs)) : ∀ {v : V} {d : D}, VL.noLst d = true → Rep K H W v d → Rep K H W' v d
  | _, _, _, .non => .non
  | _, _, _, .bl b => .bl b
  | _, _, _, .int b => .int b
  | _, _, _, .str b => .str b
  | _, _, _, .ty b => .ty b
  | _, _, e, .tup n t r => .tup (fun z => (h _ z).elim n fun ⟨o, q, no⟩ => (by obtain ⟨o', t, _⟩ := t; rw [t] at q; cases q; exact no _ _ rfl)) t (Reps.noLst h (by rw [VL.noLst] at e; exact e) r)
  | _, _, e, .lst n t r => by rw [VL.noLst] at e; cases e
  | _, _, e, .dct n t l r => by rw [VL.noLst] at e; cases e
  | _, _, e, .frz t r => by rw [VL.noLst] at e; cases e
theorem Reps.noLst (h : ∀ b, W' b → W b ∨ ∃ o, H b = some o ∧ ∀ q xs, o ≠ .frz q (.tup xs)) : ∀ {vs : List V} {ds : List D}, VL.noLsts ds = true → Reps K H W vs ds → Reps K H W' vs ds
  | _, _, _, .nil => .nil
  | _, _, e, .cons r t => by
    rw [VL.noLsts, Bool.and_eq_true] at e
    exact .cons (Rep.noLst h e.1 r) (Reps.noLst h e.2 t)
end
theorem Own.notTup {a : Addr} {d : D} (o : Own K H W a d) : ∃ x, H a = some x ∧ ∀ q xs, x ≠ .frz q (.tup xs) := by
  cases d with
  | lst ds => obtain ⟨vs, h, _⟩ := o; exact ⟨_, h, fun q xs z => by cases z⟩
  | dct ks ds => obtain ⟨vs, h, _⟩ := o; exact ⟨_, h, fun q xs z => by cases z⟩
  | _ => exact o.elim

theorem Own.leaf {a : Addr} {d : D} (h : ∀ b, W' b → W b ∨ ∃ o, H b = some o ∧ ∀ q xs, o ≠ .frz q (.tup xs)) (e : leafD d = true) (o : Own K H W a d) : Own K H W' a d := by
  cases d with
  | lst ds => obtain ⟨vs, h1, r⟩ := o; exact ⟨vs, h1, r.noLst h e⟩
  | dct ks ds => obtain ⟨vs, h1, l, r⟩ := o; exact ⟨vs, h1, l, r.noLst h e⟩
  | _ => exact o.elim
theorem OwnAll.leaf (h : ∀ b, W' b → W b ∨ ∃ o, H b = some o ∧ ∀ q xs, o ≠ .frz q (.tup xs)) : ∀ {as : List Addr} {ds : List D}, ds.all leafD = true → OwnAll K H W as ds → OwnAll K H W' as ds
  | [], [], _, _ => trivial
  | a :: as, d :: ds, e, o => by
    rw [List.all_cons, Bool.and_eq_true] at e
    exact ⟨o.1.leaf h e.1, OwnAll.leaf h e.2 o.2⟩
  | [], _ :: _, _, o => o.elim
  | _ :: _, [], _, o => o.elim
theorem OwnAll.sub (h : ∀ b, W' b → W b) : ∀ {as : List Addr} {ds : List D}, OwnAll K H W as ds → OwnAll K H W' as ds
  | [], [], _ => trivial
  | a :: as, d :: ds, o => ⟨o.1.ks (.sub h) rfl, OwnAll.sub h o.2⟩
  | [], _ :: _, o => o.elim
  | _ :: _, [], o => o.elim

theorem refTag : ∀ {bs : List Bool} {ps : List P} {ds : List D} {i : Nat}, argsM bs ps m = some ds → i ∈ refIx bs ps → ∃ t d, m[i]? = some (some (t, d)) ∧ (t = .own ∨ t = .byr)
  | [], ps, _, _, _, h => by cases ps <;> cases h
  | b :: bs, [], _, _, _, h => by cases b <;> cases h
  | true :: bs, .val _ :: ps, _, _, e, _ => by cases e
  | true :: bs, .fresh _ :: ps, _, _, e, _ => by cases e
  | true :: bs, .bor j :: ps, ds, i, e, h => by
    unfold argsM at e
    split at e
    · rename_i d5 ds5 e4 e5
      rcases List.mem_cons.mp (show i ∈ j :: refIx bs ps from h) with rfl | h
      · exact ⟨_, _, sl_get e4, .inl rfl⟩
      · exact refTag e5 h
    · rename_i d5 ds5 e4 e5
      rcases List.mem_cons.mp (show i ∈ j :: refIx bs ps from h) with rfl | h
      · exact ⟨_, _, sl_get e4, .inr rfl⟩
      · exact refTag e5 h
    · cases e
  | false :: bs, q :: ps, ds, i, e, h => by
    unfold argsM at e
    split at e
    · rename_i d5 ds5 e4 e5
      exact refTag e5 (by cases q <;> exact h)
    · cases e
theorem borTag : ∀ {bs : List Bool} {ps : List P} {ds : List D} {j : Nat}, argsM bs ps m = some ds → j ∈ borIx m bs ps → ∃ t d, m[j]? = some (some (t, d)) ∧ t ≠ .shr
  | [], ps, _, _, _, h => by cases ps <;> cases h
  | b :: bs, [], _, _, _, h => by cases b <;> cases h
  | true :: bs, .val _ :: ps, _, _, e, _ => by cases e
  | true :: bs, .fresh _ :: ps, _, _, e, _ => by cases e
  | true :: bs, .bor i :: ps, ds, j, e, h => by
    unfold argsM at e
    split at e
    · rename_i e5; exact borTag e5 h
    · rename_i e5; exact borTag e5 h
    · cases e
  | false :: bs, q :: ps, ds, j, e, h => by
    unfold argsM at e
    split at e
    · rename_i d5 ds5 e4 e5
      cases q with
      | bor i =>
        have h : j ∈ (match sl m i with
          | some (.shr, _) => borIx m bs ps
          | _ => i :: borIx m bs ps) := h
        have e4 := rd_bor e4
        split at e4
        · rename_i t d em
          rw [em] at h
          cases t with
          | shr => exact borTag e5 h
          | _ =>
            rcases List.mem_cons.mp h with rfl | h
            · exact ⟨_, _, sl_get em, by decide⟩
            · exact borTag e5 h
        · cases e4
      | _ => exact borTag e5 h
    · cases e
theorem ixs_nodup (S : SR K C Z m σ H) : ∀ {is : List Nat} {as : List Addr}, distinct is = true → (∀ i ∈ is, ∃ t d, m[i]? = some (some (t, d)) ∧ t ≠ .shr) → is.map (fun i => σ[i]?) = as.map (fun a => some (some (.ref a))) → as.Nodup
  | [], [], _, _, _ => List.nodup_nil
  | [], _ :: _, _, _, h => by cases h
  | _ :: _, [], _, _, _ => List.nodup_nil
  | j :: is, a :: as, dis, hs, hm => by
    rw [distinct, Bool.and_eq_true] at dis
    have hj : σ[j]? = some (some (.ref a)) := by
      have := congrArg List.head? hm
      simpa using this
    have hm' : is.map (fun i => σ[i]?) = as.map (fun a => some (some (.ref a))) := by
      have := congrArg List.tail hm
      simpa using this
    refine List.nodup_cons.mpr ⟨fun ha => ?_, ixs_nodup S dis.2 (fun i hi => hs i (List.mem_cons_of_mem _ hi)) hm'⟩
    have : some (some (V.ref a)) ∈ is.map (fun i => σ[i]?) := by rw [hm']; exact List.mem_map.mpr ⟨a, ha, rfl⟩
    obtain ⟨i, hi, ei⟩ := List.mem_map.mp this
    obtain ⟨t1, d1, g1, n1⟩ := hs j List.mem_cons_self
    obtain ⟨t2, d2, g2, n2⟩ := hs i (List.mem_cons_of_mem _ hi)
    have := S.inj j i t1 t2 d1 d2 a g1 g2 n1 n2 hj ei
    subst this
    have nj : j ∉ is := by simpa using dis.1
    exact nj hi

/-- what the callee is handed -/
structure Handed (K : PySem.W.Frag) (Z : Zn) (m : MS) (σ : L2.St) (H : Hp) (W' : AS) (bs : List Bool) (vs : List V) (ds : List D) (ix : List Nat) : Prop where
  ok : ArgsOk K H W' bs vs ds
  refs : ∀ a, a ∈ refs bs vs → ∃ i ∈ ix, σ[i]? = some (some (.ref a))
  ixs : ix.map (fun i => σ[i]?) = (VL.refs bs vs).map fun a => some (some (.ref a))
theorem handed (S : SR K C Z m σ H) (B : List Nat) (hW : ∀ b, W' b ↔ Z.W b ∧ ∀ j ∈ B, σ[j]? ≠ some (some (.ref b))) : ∀ {bs : List Bool} {vs : List V} {ps : List P} {ds : List D},
    RPs K H Z σ vs ps → argsM bs ps m = some ds → (∀ j ∈ borIx m bs ps, j ∈ B) → (∀ j ∈ B, j ∉ refIx bs ps ∧ ∃ t d, m[j]? = some (some (t, d)) ∧ t ≠ .shr) → Handed K Z m σ H W' bs vs ds (refIx bs ps)
  | [], _, [], ds, .nil, e, _, _ => by cases e; exact ⟨trivial, fun a h => (by cases h), rfl⟩
  | [], _, _ :: _, _, .cons _ _, e, _, _ => by cases e
  | true :: bs, _, [], _, .nil, e, _, _ => by cases e
  | false :: bs, _, [], _, .nil, e, _, _ => by cases e
  | true :: bs, _, .val _ :: ps, ds, .cons r t, e, _, _ => by cases e
  | true :: bs, _, .fresh _ :: ps, ds, .cons r t, e, _, _ => by cases e
  | true :: bs, v :: vs, .bor i :: ps, ds, .cons r t, e, hb, hB => by
    have go : ∀ (tg : Tag) (d : D) (ds' : List D), (tg = .own ∨ tg = .byr) → sl m i = some (tg, d) → argsM bs ps m = some ds' → ds = d :: ds' → Handed K Z m σ H W' (true :: bs) (v :: vs) ds (refIx (true :: bs) (.bor i :: ps)) := by
      intro tg d ds' ht e1 e2 ed
      subst ed
      have ih := handed S B hW t e2 hb (fun j hj => ⟨fun z => (hB j hj).1 (List.mem_cons_of_mem _ z), (hB j hj).2⟩)
      obtain ⟨a, h1, h2, h3, _⟩ := S.own i tg d (sl_get e1) (by rcases ht with h | h <;> (rw [h]; decide))
      have r' : σ[i]? = some (some v) := r
      rw [h1] at r'
      cases r'
      have w : W' a := (hW a).mpr ⟨h2, fun j hj z => by
        obtain ⟨h4, t', d', h5, h6⟩ := hB j hj
        have : j = i := S.inj j i t' tg d' d a h5 (sl_get e1) h6 (by rcases ht with h | h <;> (rw [h]; decide)) z h1
        exact h4 (by rw [this]; exact List.mem_cons_self)⟩
      refine ⟨⟨by rw [if_pos rfl]; exact ⟨a, rfl, w, h3.ks (.sub fun b z => ((hW b).mp z).1) rfl⟩, ih.ok⟩, fun b hb' => ?_, ?_⟩
      · rcases List.mem_cons.mp (show b ∈ a :: refs bs vs from hb') with rfl | hb'
        · exact ⟨i, List.mem_cons_self, h1⟩
        · obtain ⟨j, hj, e⟩ := ih.refs b hb'
          exact ⟨j, List.mem_cons_of_mem _ hj, e⟩
      · show σ[i]? :: (refIx bs ps).map (fun i => σ[i]?) = some (some (.ref a)) :: (VL.refs bs vs).map fun a => some (some (.ref a))
        rw [h1, ih.ixs]
    unfold argsM at e
    split at e
    · rename_i d ds' e1 e2
      cases e
      exact go .own d ds' (.inl rfl) e1 e2 rfl
    · rename_i d ds' e1 e2
      cases e
      exact go .byr d ds' (.inr rfl) e1 e2 rfl
    · cases e
  | false :: bs, v :: vs, p :: ps, ds, .cons r t, e, hb, hB => by
    unfold argsM at e
    split at e
    · rename_i d ds' e1 e2
      cases e
      have hbt : ∀ j ∈ borIx m bs ps, j ∈ B := fun j hj => hb j (by
        cases p with
        | bor i =>
          show j ∈ (match sl m i with
            | some (.shr, _) => borIx m bs ps
            | _ => i :: borIx m bs ps)
          split
          · exact hj
          · exact List.mem_cons_of_mem _ hj
        | _ => exact hj)
      have hBt : ∀ j ∈ B, j ∉ refIx bs ps ∧ ∃ t d, m[j]? = some (some (t, d)) ∧ t ≠ .shr := fun j hj => ⟨fun z => (hB j hj).1 (by cases p <;> exact z), (hB j hj).2⟩
      have ih := handed S B hW t e2 hbt hBt
      have rr : Rep K H W' v d := by
        have ks : Ks H Z.W H W' := .sub fun b z => ((hW b).mp z).1
        cases p with
        | val d' => cases e1; exact Rep.ks ks r
        | fresh d' => cases e1; exact Rep.ks ks r
        | bor i =>
          have e1 := rd_bor e1
          split at e1
          · rename_i t d' em
            cases e1
            obtain ⟨u, h1, h2⟩ := S.slot (sl_get em)
            have r' : σ[i]? = some (some v) := r
            rw [h1] at r'
            cases r'
            rcases h2 with ⟨_, h⟩ | ⟨nt, a, rfl, hw, ho, _⟩
            · exact h.ks ks
            · have hi : i ∈ B := hb i (by
                show i ∈ (match sl m i with
                  | some (.shr, _) => borIx m bs ps
                  | _ => i :: borIx m bs ps)
                rw [em]
                cases t <;> first | exact absurd rfl nt | exact List.mem_cons_self)
              exact ho.rep (fun b z => ((hW b).mp z).1) fun z => ((hW a).mp z).2 i hi h1
          · cases e1
      have e3 : refs (false :: bs) (v :: vs) = refs bs vs := by cases v <;> rfl
      refine ⟨⟨by rw [if_neg Bool.false_ne_true]; exact rr, ih.ok⟩, fun a ha => ?_, ?_⟩
      · obtain ⟨i, hi, e⟩ := ih.refs a (by rw [← e3]; exact ha)
        exact ⟨i, by cases p <;> exact hi, e⟩
      · have e4 : refIx (false :: bs) (p :: ps) = refIx bs ps := by cases p <;> rfl
        rw [e3, e4]
        exact ih.ixs
    · cases e
/-- one object by reference has changed -/
theorem SR.change {R : List Addr} (S : SR K C Z m σ H) (hR : ∀ a ∈ R, Z.M a) (hk : ∀ b o, b ∉ R → H b = some o → H' b = some o) (hd : ∀ b, H b ≠ none → H' b ≠ none)
    (h1 : ∀ (i : Nat) (t : Tag) (d : D), m'[i]? = some (some (t, d)) → ∃ d0, m[i]? = some (some (t, d0)) ∧ ((d0 = d ∧ ∀ a, t ≠ .shr → σ[i]? = some (some (.ref a)) → a ∉ R) ∨ (t ≠ .shr ∧ ∀ a, σ[i]? = some (some (.ref a)) → Own K H' Z.W a d)))
    (h2 : ∀ (i : Nat) (t : Tag) (d : D), m[i]? = some (some (t, d)) → ∃ d', m'[i]? = some (some (t, d'))) (hl : m'.length = m.length) : Ev Z H Z H' ∧ SR K C Z m' σ H' := by
  have ev : Ev Z H Z H' := ⟨fun b o n e => hk b o (fun z => n (hR b z)) e, fun _ z => .inl z, fun _ z => .inl z, hd⟩
  have ks := S.ks ev
  refine ⟨ev, hl.trans S.len, fun i d e => ?_, fun i t d e n => ?_, fun i j ti tj di dj a q1 q2 n1 n2 s1 s2 => ?_, S.base, fun b o e n => ?_, S.mr, S.mw, fun b z => hd b (S.wdom b z), S.w0d, S.r0, fun i t d a e n s => ?_, fun b hb => ?_, fun p hp => ?_, fun p hp => ?_⟩
  · obtain ⟨d0, e0, q⟩ := h1 i _ d e
    rcases q with ⟨rfl, _⟩ | ⟨n, _⟩
    · obtain ⟨v, g1, g2⟩ := S.shr i _ e0
      exact ⟨v, g1, g2.ks ks⟩
    · exact absurd rfl n
  · obtain ⟨d0, e0, q⟩ := h1 i _ d e
    obtain ⟨a, g1, g2, g3, g4⟩ := S.own i t d0 e0 n
    refine ⟨a, g1, g2, ?_, g4⟩
    rcases q with ⟨rfl, na⟩ | ⟨_, w⟩
    · obtain ⟨o, ho⟩ := g3.there
      exact g3.ks ks (by rw [hk a o (na a n g1) ho, ho])
    · exact w a g1
  · obtain ⟨d1, e1, _⟩ := h1 i _ di q1
    obtain ⟨d2, e2, _⟩ := h1 j _ dj q2
    exact S.inj i j ti tj d1 d2 a e1 e2 n1 n2 s1 s2
  · refine hk b o (fun z => ?_) (S.keep b o e n)
    rcases S.mr b (hR b z) with q | q
    · exact n q
    · rw [q] at e; cases e
  · obtain ⟨d0, e0, _⟩ := h1 i _ d e
    exact S.lck i t d0 a e0 n s
  · obtain ⟨r1, r2, r3, r4⟩ := S.res b hb
    refine ⟨r1, r2, r3, fun i t d e n => ?_⟩
    obtain ⟨d0, e0, _⟩ := h1 i _ d e
    exact r4 i t d0 e0 n
  · obtain ⟨t, d, g1, g2, g3⟩ := S.lkd p hp
    obtain ⟨d', e'⟩ := h2 _ t d g2
    exact ⟨t, d', g1, e', g3⟩
  · obtain ⟨t, d, g1, g2, g3⟩ := S.byr p hp
    obtain ⟨d', e'⟩ := h2 _ t d g2
    exact ⟨t, d', g1, e', g3⟩
theorem setCont_length : ∀ {is : List Nat} {ds : List D} {m m' : MS}, setCont m is ds = some m' → m'.length = m.length
  | [], [], _, _, e => by cases e; rfl
  | i :: is, d :: ds, m, m', e => by
    unfold setCont at e
    split at e
    · rw [setCont_length e, List.length_set]
    · cases e
  | [], _ :: _, _, _, e => by cases e
  | _ :: _, [], _, _, e => by cases e
theorem setCont_tag : ∀ {is : List Nat} {ds : List D} {m m' : MS} {i : Nat} {t : Tag} {d : D}, setCont m is ds = some m' → m[i]? = some (some (t, d)) → ∃ d', m'[i]? = some (some (t, d'))
  | [], [], _, _, _, _, d, e, h => by cases e; exact ⟨d, h⟩
  | j :: is, x :: ds, m, m', i, t, d, e, h => by
    unfold setCont at e
    split at e
    · rename_i t' d' em
      by_cases hj : i = j
      · subst hj
        rw [sl_get em] at h
        cases h
        exact setCont_tag e (List.getElem?_set_self (lt_of_get (sl_get em)))
      · exact setCont_tag e (by rw [List.getElem?_set_ne (Ne.symm hj)]; exact h)
    · cases e
  | [], _ :: _, _, _, _, _, _, e, _ => by cases e
  | _ :: _, [], _, _, _, _, _, e, _ => by cases e
theorem setCont_out : ∀ {is : List Nat} {ds : List D} {m m' : MS} {i : Nat}, setCont m is ds = some m' → i ∉ is → m'[i]? = m[i]?
  | [], [], _, _, _, e, _ => by cases e; rfl
  | j :: is, x :: ds, m, m', i, e, h => by
    simp only [List.mem_cons, not_or] at h
    unfold setCont at e
    split at e
    · rw [setCont_out e h.2, List.getElem?_set_ne (Ne.symm h.1)]
    · cases e
  | [], _ :: _, _, _, _, e, _ => by cases e
  | _ :: _, [], _, _, _, e, _ => by cases e
/-- at a slot that was handed by reference -/
theorem setCont_at : ∀ {is : List Nat} {ds : List D} {as : List Addr} {m m' : MS} {i : Nat} {t : Tag} {d : D}, setCont m is ds = some m' → distinct is = true → OwnAll K H W as ds → is.map (fun i => σ[i]?) = as.map (fun a => some (some (.ref a))) → i ∈ is → m'[i]? = some (some (t, d)) →
    ∃ a d0, σ[i]? = some (some (.ref a)) ∧ a ∈ as ∧ Own K H W a d ∧ m[i]? = some (some (t, d0))
  | [], _, _, _, _, _, _, _, _, _, _, _, h, _ => by cases h
  | j :: is, [], _, _, _, _, _, _, e, _, _, _, _, _ => by cases e
  | j :: is, x :: ds, [], _, _, _, _, _, _, _, o, _, _, _ => o.elim
  | j :: is, x :: ds, a :: as, m, m', i, t, d, e, dis, o, hm, h, hi => by
    unfold setCont at e
    rw [distinct, Bool.and_eq_true] at dis
    have hj : σ[j]? = some (some (.ref a)) := by
      have := congrArg List.head? hm
      simpa using this
    have hm' : is.map (fun i => σ[i]?) = as.map (fun a => some (some (.ref a))) := by
      have := congrArg List.tail hm
      simpa using this
    split at e
    · rename_i t' d' em
      by_cases hij : i = j
      · subst hij
        have ni : i ∉ is := by simpa using dis.1
        rw [setCont_out e ni, List.getElem?_set_self (lt_of_get (sl_get em))] at hi
        cases hi
        exact ⟨a, d', hj, List.mem_cons_self, o.1, sl_get em⟩
      · rcases List.mem_cons.mp h with h | h
        · exact absurd h hij
        · obtain ⟨b, d0, h1, h2, h3, h4⟩ := setCont_at e dis.2 o.2 hm' h hi
          rw [List.getElem?_set_ne (Ne.symm hij)] at h4
          exact ⟨b, d0, h1, List.mem_cons_of_mem _ h2, h3, h4⟩
    · cases e
end
section
variable {X : Cx} {e : Expr} {es : List Expr} {fs : AF} {k : Nat} {f : Addr} {fd : FuncData} {ps : List Str} {x : Str} {p pos : Pos} {modes : List Bool} {F : DF}
theorem tE_call {σ : L2.St} {H : Hp} {Q : VK} (h : tE X.K (mCall modes F fs) σ H Q) : tCall (spF X.K modes F) [] E0 (tA X.K fs) σ H Q := by
  obtain ⟨C, Z, m, p, m', S, e, kk⟩ := h
  unfold mCall at e
  split at e
  · rename_i pl m1 e1
    split at e
    · rename_i ds e2
      split at e
      · rename_i g
        rw [Bool.and_eq_true] at g
        split at e
        · rename_i r rs eF
          split at e
          · rename_i g2
            split at e
            · rename_i m2 e3
              cases e
              refine ⟨C, Z, m, pl, m1, S, e1, fun vs H1 Z1 E1 S1 r1 => ?_⟩
              show spF X.K modes F (vs ++ []) H1 Q E0
              rw [List.append_nil]
              have notShr : ∀ {t : Tag}, (t = .own ∨ t = .byr) → t ≠ .shr := fun h => by rcases h with h | h <;> (rw [h]; decide)
              have hB : ∀ j ∈ borIx m1 modes pl, j ∉ refIx modes pl ∧ ∃ t d, m1[j]? = some (some (t, d)) ∧ t ≠ .shr := fun j hj => ⟨by simpa using List.all_eq_true.mp g.2 j hj, borTag e2 hj⟩
              have hd := handed (W' := fun b => Z1.W b ∧ ∀ j ∈ borIx m1 modes pl, σ[j]? ≠ some (some (.ref b))) S1 (borIx m1 modes pl) (fun b => Iff.rfl) r1 e2 (fun j h => h) hB
              have atRef : ∀ {a : Addr} {i : Nat} {t : Tag} {d : D}, i ∈ refIx modes pl → σ[i]? = some (some (.ref a)) → m1[i]? = some (some (t, d)) → (t = .own ∨ t = .byr) := fun {a i t d} hi _ h => by
                obtain ⟨t', d', h2, h3⟩ := refTag e2 hi
                rw [h] at h2
                cases h2
                exact h3
              have hRM : ∀ a ∈ refs modes vs, Z1.M a := by
                intro a ha
                obtain ⟨i, hi, h1⟩ := hd.refs a ha
                obtain ⟨t, d, h2, h3⟩ := refTag e2 hi
                obtain ⟨a', q1, _, _, q4, _⟩ := S1.own i t d h2 (notShr h3)
                rw [h1] at q1
                cases q1
                exact q4 h3
              have nd : (refs modes vs).Nodup := ixs_nodup S1 g.1 (fun i hi => by
                obtain ⟨t, d, h2, h3⟩ := refTag e2 hi
                exact ⟨t, d, h2, notShr h3⟩) hd.ixs
              refine ⟨_, ds, p, rs, fun b z => S1.wdom b z.1, hd.ok, nd, eF, fun v H2 hk hdm ro oa => ?_⟩
              have notRef : ∀ (j : Nat) (t : Tag) (d : D) (b : Addr), j ∉ refIx modes pl → m1[j]? = some (some (t, d)) → t ≠ .shr → σ[j]? = some (some (.ref b)) → b ∉ refs modes vs := fun j t d b nj h1 h2 hb z => by
                obtain ⟨i, hi, e⟩ := hd.refs b z
                obtain ⟨t2, d2, g1, g2⟩ := refTag e2 hi
                exact nj (by rw [S1.inj j i t t2 d d2 b h1 g1 h2 (notShr g2) hb e]; exact hi)
              -- a list of one's own that is read stays
              have stay : ∀ j ∈ borIx m1 modes pl, ∀ b, σ[j]? = some (some (.ref b)) → ∃ o, H2 b = some o ∧ ∀ q xs, o ≠ .frz q (.tup xs) := by
                intro j hj b hb
                obtain ⟨nj, t, d, h1, h2⟩ := hB j hj
                obtain ⟨a, q1, q2, q3, _⟩ := S1.own j t d h1 h2
                rw [hb] at q1
                cases q1
                obtain ⟨o, ho, no⟩ := q3.notTup
                exact ⟨o, hk b o (notRef j t d b nj h1 h2 hb) ho, no⟩
              have lift : ∀ b, Z1.W b → (Z1.W b ∧ ∀ j ∈ borIx m1 modes pl, σ[j]? ≠ some (some (.ref b))) ∨ ∃ o, H2 b = some o ∧ ∀ q xs, o ≠ .frz q (.tup xs) := fun b z => by
                by_cases h : ∀ j ∈ borIx m1 modes pl, σ[j]? ≠ some (some (.ref b))
                · exact .inl ⟨z, h⟩
                · refine .inr ?_
                  apply Classical.byContradiction
                  intro q
                  exact h fun j hj hb => q (stay j hj b hb)
              have none : (borIx m1 modes pl).isEmpty = true → ∀ b, Z1.W b → (Z1.W b ∧ ∀ j ∈ borIx m1 modes pl, σ[j]? ≠ some (some (.ref b))) := fun q b z => ⟨z, fun j hj => by
                rw [List.isEmpty_iff.mp q] at hj
                cases hj⟩
              rw [Bool.and_eq_true, Bool.or_eq_true, Bool.or_eq_true, Bool.and_eq_true] at g2
              -- the state behind the call
              have go : ∀ (Z2 : Zn) (H1' : Hp), SR X.K C Z2 m1 σ H1' → (∀ a, Z1.M a → Z2.M a) → (∀ b o, b ∉ refs modes vs → H1' b = some o → H2 b = some o) → (∀ b, H1' b ≠ Option.none → H2 b ≠ Option.none) → OwnAll X.K H2 Z2.W (refs modes vs) rs → Ev Z2 H1' Z2 H2 ∧ SR X.K C Z2 m' σ H2 := by
                intro Z2 H1' S2 hM hk' hd' oa2
                refine S2.change (R := refs modes vs) (fun a ha => hM a (hRM a ha)) hk' hd' (fun i t d hi => ?_) (fun i t d hi => setCont_tag e3 hi) (setCont_length e3)
                by_cases hx : i ∈ refIx modes pl
                · obtain ⟨a, d0, q1, q2, q3, q4⟩ := setCont_at e3 g.1 oa2 hd.ixs hx hi
                  obtain ⟨t', d', q5, q6⟩ := refTag e2 hx
                  rw [q4] at q5
                  cases q5
                  refine ⟨d0, q4, .inr ⟨notShr q6, fun b hb => ?_⟩⟩
                  rw [q1] at hb
                  cases hb
                  exact q3
                · rw [setCont_out e3 hx] at hi
                  exact ⟨d, hi, .inl ⟨rfl, fun a n hb => notRef i t d a hx hi n hb⟩⟩
              cases p with
              | bor i => exact ro.elim
              | val d =>
                have oa2 : OwnAll X.K H2 Z1.W (refs modes vs) rs := g2.2.elim (fun q => oa.leaf lift q) fun q => oa.sub (none q.1)
                have r2 : Rep X.K H2 Z1.W v d := g2.1.elim (fun q => Rep.ks (.sub (none q)) ro) fun q => Rep.noLst lift q ro
                obtain ⟨ev, S2⟩ := go Z1 H1 S1 (fun _ z => z) hk hdm oa2
                exact kk v H2 Z1 (E1.trans ev) S2 r2
              | fresh d =>
                obtain ⟨a, rfl, ha, ho⟩ := ro
                obtain ⟨o, hoa, hnt⟩ := ho.notTup
                have lift2 : ∀ b, (b = a ∨ Z1.W b) → (b = a ∨ (Z1.W b ∧ ∀ j ∈ borIx m1 modes pl, σ[j]? ≠ some (some (.ref b)))) ∨ ∃ o, H2 b = some o ∧ ∀ q xs, o ≠ .frz q (.tup xs) := fun b z => z.elim (fun q => .inl (.inl q)) fun q => (lift b q).imp .inr id
                have lift3 : ∀ b, (b = a ∨ Z1.W b) → (Z1.W b ∧ ∀ j ∈ borIx m1 modes pl, σ[j]? ≠ some (some (.ref b))) ∨ ∃ o, H2 b = some o ∧ ∀ q xs, o ≠ .frz q (.tup xs) := fun b z => z.elim (fun q => .inr ⟨o, by rw [q]; exact hoa, hnt⟩) fun q => lift b q
                have lf : rs.all leafD = true := g2.2.elim id fun q => by cases q.2
                have o2 : Own X.K H2 (Z1.add a).W a d := g2.1.elim (fun q => ho.ks (.sub fun b z => z.imp id (none q b)) rfl) fun q => ho.leaf lift2 q
                have S1' : SR X.K C (Z1.add a) m1 σ (upd H1 a o) := S1.take (same_new ha) ha (by rw [upd_same]; simp)
                have nR : a ∉ refs modes vs := fun z => S1.none_out ha (S1.mw a (hRM a z))
                have hk' : ∀ b x, b ∉ refs modes vs → upd H1 a o b = some x → H2 b = some x := fun b x nb e => by
                  by_cases hb : b = a
                  · rw [hb, upd_same] at e; rw [hb, hoa]; exact e
                  · rw [upd_ne hb] at e; exact hk b x nb e
                have hd' : ∀ b, upd H1 a o b ≠ Option.none → H2 b ≠ Option.none := fun b e => by
                  by_cases hb : b = a
                  · rw [hb, hoa]; simp
                  · rw [upd_ne hb] at e; exact hdm b e
                obtain ⟨_, S2⟩ := go (Z1.add a) _ S1' (fun _ z => .inr z) hk' hd' (oa.leaf lift3 lf)
                obtain ⟨ev, S3⟩ := go Z1 _ S1 (fun _ z => z) hk hdm (oa.leaf lift lf)
                refine kk _ H2 Z1 (E1.trans ev) S3 ⟨a, rfl, S1.none_out ha, ?_, S1.new0 ha, S2, o2⟩
                cases q : H a with
                | none => rfl
                | some x => exact absurd ha (E1.d a (by rw [q]; simp))
            · cases e
          · cases e
        · cases e
      · cases e
    · cases e
  · cases e
end
end VL

set_option Elab.async false
set_option linter.all false
set_option maxRecDepth 100000
set_option autoImplicit false
/-! The value layer, part 14: methods, stores at indices, op=. -/
namespace VL
open PySem PySem.Spec L2

/-- the object at a slot that may be written -/
@[simp] def wrt (i : Nat) (m : MS) : Option (Tag × D) := match sl m i with
  | some (.own, d) => some (.own, d)
  | some (.byr, d) => some (.byr, d)
  | _ => none
theorem wrt_get {i : Nat} {m : MS} {t : Tag} {d : D} (e : wrt i m = some (t, d)) : m[i]? = some (some (t, d)) ∧ (t = .own ∨ t = .byr) := by
  unfold wrt at e
  split at e
  · rename_i d' em; cases e; exact ⟨sl_get em, .inl rfl⟩
  · rename_i d' em; cases e; exact ⟨sl_get em, .inr rfl⟩
  · cases e
@[simp] def kindB (T : String) : D → Bool
  | .lst _ => T == "list"
  | .dct _ _ => T == "dict"
  | _ => false
theorem own_ty {K : PySem.W.Frag} {H : Hp} {W : AS} {a : Addr} {d : D} {T : String} (o : Own K H W a d) (e : kindB T d = true) : tyV K T (.ref a) H := by
  cases d with
  | lst ds => obtain ⟨vs, h, _⟩ := o; exact .inl ⟨by simpa [kindB] using e, vs, SqL.of h⟩
  | dct ks ds => obtain ⟨vs, h, _⟩ := o; exact .inr (.inr (.inl ⟨by simpa [kindB] using e, .inl ⟨_, h⟩⟩))
  | _ => exact o.elim
/-- a method that writes, by data -/
structure WrOk (K : PySem.W.Frag) (r : V → List V → Hp → VK → Prop) (g : D → List D → Option (D × D)) : Prop where
  run : ∀ {H : Hp} {W : AS} {a : Addr} {xs : List V} {ds : List D} {d e d' : D} {Q : VK}, W a → Own K H W a d → Reps K H W xs ds → g d ds = some (e, d') →
    (∀ v o, Own K (upd H a o) W a d' → Rep K (upd H a o) W v e → Q v (upd H a o)) → r (.ref a) xs H Q
@[simp] def wrFin (i : Nat) (g : D → List D → Option (D × D)) (ds : List D) (m : MS) : Option (P × MS) := match wrt i m with
  | some (t, d) => match g d ds with
    | some (e, d') => some (.val e, m.set i (some (t, d')))
    | none => none
  | none => none
def mW (T : String) (i : Nat) (g : D → List D → Option (D × D)) (fs : AF) : EF := fun m => match wrt i m with
  | some (_, d0) => if kindB T d0 then (match fs m with
    | some (ps, m1) => match forces ps m1 with
      | some (ds, m2) => wrFin i g ds m2
      | none => none
    | none => none) else none
  | none => none
def mW0 (T : String) (i : Nat) (g : D → List D → Option (D × D)) : EF := fun m => match wrt i m with
  | some (_, d0) => if kindB T d0 then wrFin i g [] m else none
  | none => none
section
variable {K : PySem.W.Frag} {H : Hp} {W : AS} {a : Addr}
theorem ks_own {o : HO} (w : W a) : Ks H W (upd H a o) W := ⟨fun b x n e => by rw [upd_ne (fun z => n (by rw [z]; exact w))]; exact e, fun _ z => .inl z⟩
theorem wr_fin {C : Ct} {Z Z0 : Zn} {m m' : MS} {σ : L2.St} {H0 : Hp} {i : Nat} {r : V → List V → Hp → VK → Prop} {g : D → List D → Option (D × D)} {ds : List D} {xs : List V} {p : P} {x : V} {Q : VK} (w : WrOk K r g) (hx : σ[i]? = some (some x)) (S : SR K C Z m σ H) (rs : Reps K H Z.W xs ds) (e : wrFin i g ds m = some (p, m'))
    (E0 : Ev Z0 H0 Z H) (k : ∀ v H' Z', Ev Z0 H0 Z' H' → SR K C Z' m' σ H' → RP1 K C Z' m' σ H0 H' v p → Q v H') : r x xs H Q := by
  unfold wrFin at e
  split at e
  · rename_i t d ew
    split at e
    · rename_i e1 d' eg
      cases e
      obtain ⟨em, ht⟩ := wrt_get ew
      obtain ⟨a, h1, h2, h3, _⟩ := S.own i t d em (by rcases ht with h | h <;> (rw [h]; decide))
      rw [h1] at hx
      cases hx
      refine w.run h2 h3 rs eg fun v o ow rv => ?_
      obtain ⟨ev, S'⟩ := S.write em ht h1 ow
      exact k v _ Z (E0.trans ev) S' rv
    · cases e
  · cases e
end
section
variable {X : Cx} {o e : Expr} {es : List Expr} {name : Str} {apos cpos : Pos} {T id : String} {r : V → List V → Hp → VK → Prop} {g : D → List D → Option (D × D)} {i : Nat} {fs : AF}
theorem me_w0 (pa : PlainAttrs T) (slot : Slot T name id) (hty : typeOf (.builtin id) = pure (.type "method_descriptor")) (hm : MtR X id r) (w : WrOk X.K r g) (ho : PE X o (tVar i))
    (hbase : attributeBase o name X.env (eval o X.env) = eval o X.env := by rfl) (hline : (apos.endLine == cpos.line) = true := by rfl) : ME X (.Call (.Attribute o name apos) [] [] cpos) (mW0 T i g) :=
  (pe_bm0 pa slot hty hm ho hbase hline).weak fun σ H Q ⟨C, Z, m, p, m', S, e, k⟩ => by
    unfold mW0 at e
    split at e
    · rename_i t0 d0 ew
      split at e
      · rename_i kb
        obtain ⟨em, ht⟩ := wrt_get ew
        obtain ⟨a, h1, h2, h3, _⟩ := S.own i t0 d0 em (by rcases ht with h | h <;> (rw [h]; decide))
        exact ⟨_, h1, own_ty h3 kb, wr_fin w h1 S .nil e .refl k⟩
      · cases e
    · cases e
theorem me_w (pa : PlainAttrs T) (slot : Slot T name id) (hty : typeOf (.builtin id) = pure (.type "method_descriptor")) (hm : MtR X id r) (w : WrOk X.K r g) (ho : PE X o (tVar i)) (ha : MA X (e :: es) fs)
    (hbase : attributeBase o name X.env (eval o X.env) = eval o X.env := by rfl)
    (hfew : ((backTo cpos (starEach (e :: es) X.env)).all (fun x => !x.1) && (backToKw cpos (keywordEach [] X.env)).all (fun x => x.1.isSome)
      && decide ((e :: es).length + ([] : List Keyword).length + (if ([] : List Keyword).isEmpty then 0 else 1) < 30)) = true := by rfl)
    (hline : (apos.endLine == cpos.line) = true := by rfl) (hs : starEach (e :: es) X.env = (false, eval e X.env) :: starEach es X.env := by rfl) (hplain : (backTo cpos (starEach es X.env)).any (·.1) = false := by rfl) :
    ME X (.Call (.Attribute o name apos) (e :: es) [] cpos) (mW T i g fs) :=
  (pe_bm pa slot hty hm ho ha hbase hfew hline hs hplain).weak fun σ H Q ⟨C, Z, m, p, m', S, e, k⟩ => by
    unfold mW at e
    split at e
    · rename_i t0 d0 ew
      split at e
      · rename_i kb
        split at e
        · rename_i ps m1 e1
          split at e
          · rename_i ds m2 e2
            obtain ⟨em, ht⟩ := wrt_get ew
            obtain ⟨a, h1, h2, h3, _⟩ := S.own i t0 d0 em (by rcases ht with h | h <;> (rw [h]; decide))
            refine ⟨_, h1, own_ty h3 kb, C, Z, m, ps, m1, S, e1, fun xs H1 Z1 E1 S1 r1 => ?_⟩
            obtain ⟨Z2, E2, S2, r2⟩ := S1.forces r1 e2
            exact wr_fin w h1 S2 r2 e (E1.trans E2) k
          · cases e
        · cases e
      · cases e
    · cases e
end

/-! ### the methods of lists -/
@[simp] def wAppend : D → List D → Option (D × D)
  | .lst ds, [d] => if ds.length < sizeLine then some (.non, .lst (ds ++ [d])) else none
  | _, _ => none
def wPop : D → List D → Option (D × D)
  | .lst ds, [] => match ds[ds.length - 1]? with
    | some d => some (d, .lst ds.dropLast)
    | none => none
  | _, _ => none
def wPopAt : D → List D → Option (D × D)
  | .lst ds, [.int i] => if -(2 ^ 63) ≤ i ∧ i < 2 ^ 63 then (match seqIndex? i ds.length with
    | some k => match ds[k]? with
      | some d => some (d, .lst (ds.eraseIdx k))
      | none => none
    | none => none) else none
  | _, _ => none
@[simp] def wReverse : D → List D → Option (D × D)
  | .lst ds, [] => some (.non, .lst ds.reverse)
  | _, _ => none
section
variable {K : PySem.W.Frag}
theorem wr_append : WrOk K rAppend wAppend := ⟨fun {H W a xs ds d e d' Q} w o r g k => by
  unfold wAppend at g
  split at g
  · rename_i ds' d1
    split at g
    · rename_i hz
      cases g
      obtain ⟨vs, h, rr⟩ := o
      cases r with
      | cons r1 t =>
        cases t
        refine ⟨a, vs, _, rfl, rfl, h, by rw [rr.length]; exact hz, k _ _ ⟨_, upd_same, (rr.append (.cons r1 .nil)).ks (ks_own w)⟩ .non⟩
    · cases g
  · cases g⟩
theorem wr_pop : WrOk K rPop wPop := ⟨fun {H W a xs ds d e d' Q} w o r g k => by
  unfold wPop at g
  split at g
  · rename_i ds'
    split at g
    · rename_i d1 e1
      cases g
      obtain ⟨vs, h, rr⟩ := o
      cases r
      rw [← rr.length] at e1
      obtain ⟨v, h1, h2⟩ := rr.get e1
      exact ⟨a, vs, v, rfl, rfl, h, h1, k _ _ ⟨_, upd_same, rr.dropLast.ks (ks_own w)⟩ (h2.ks (ks_own w))⟩
    · cases g
  · cases g⟩
theorem wr_popAt : WrOk K rPopAt wPopAt := ⟨fun {H W a xs ds d e d' Q} w o r g k => by
  unfold wPopAt at g
  split at g
  · rename_i ds' i
    split at g
    · rename_i hz
      split at g
      · rename_i j ej
        split at g
        · rename_i d1 e1
          cases g
          obtain ⟨vs, h, rr⟩ := o
          cases r with
          | cons r1 t =>
            cases t
            cases r1
            obtain ⟨v, h1, h2⟩ := rr.get e1
            exact ⟨a, vs, i, j, v, rfl, rfl, h, hz.1, hz.2, by rw [rr.length]; exact ej, h1, k _ _ ⟨_, upd_same, (rr.eraseIdx j).ks (ks_own w)⟩ (h2.ks (ks_own w))⟩
        · cases g
      · cases g
    · cases g
  · cases g⟩
theorem wr_reverse : WrOk K rReverse wReverse := ⟨fun {H W a xs ds d e d' Q} w o r g k => by
  unfold wReverse at g
  split at g
  · rename_i ds'
    cases g
    obtain ⟨vs, h, rr⟩ := o
    cases r
    exact ⟨a, vs, rfl, rfl, h, k _ _ ⟨_, upd_same, rr.reverse.ks (ks_own w)⟩ .non⟩
  · cases g⟩
end
section
variable {X : Cx} {o e : Expr} {apos cpos : Pos} {i : Nat} {fs : AF}
theorem me_append (ho : PE X o (tVar i)) (ha : MA X [e] fs) (hbase : attributeBase o "append" X.env (eval o X.env) = eval o X.env := by rfl)
    (hfew : ((backTo cpos (starEach [e] X.env)).all (fun x => !x.1) && (backToKw cpos (keywordEach [] X.env)).all (fun x => x.1.isSome)
      && decide (([e] : List Expr).length + ([] : List Keyword).length + (if ([] : List Keyword).isEmpty then 0 else 1) < 30)) = true := by rfl)
    (hline : (apos.endLine == cpos.line) = true := by rfl) (hs : starEach [e] X.env = (false, eval e X.env) :: starEach [] X.env := by rfl) (hplain : (backTo cpos (starEach [] X.env)).any (·.1) = false := by rfl) : ME X (.Call (.Attribute o "append" apos) [e] [] cpos) (mW "list" i wAppend fs) :=
  me_w PySem.F.plainAttrs_list PySem.F.slot_list_append PySem.F.type_list_append mt_append wr_append ho ha hbase hfew hline hs hplain
theorem me_popAt (ho : PE X o (tVar i)) (ha : MA X [e] fs) (hbase : attributeBase o "pop" X.env (eval o X.env) = eval o X.env := by rfl)
    (hfew : ((backTo cpos (starEach [e] X.env)).all (fun x => !x.1) && (backToKw cpos (keywordEach [] X.env)).all (fun x => x.1.isSome)
      && decide (([e] : List Expr).length + ([] : List Keyword).length + (if ([] : List Keyword).isEmpty then 0 else 1) < 30)) = true := by rfl)
    (hline : (apos.endLine == cpos.line) = true := by rfl) (hs : starEach [e] X.env = (false, eval e X.env) :: starEach [] X.env := by rfl) (hplain : (backTo cpos (starEach [] X.env)).any (·.1) = false := by rfl) : ME X (.Call (.Attribute o "pop" apos) [e] [] cpos) (mW "list" i wPopAt fs) :=
  me_w PySem.F.plainAttrs_list PySem.F.slot_list_pop PySem.F.type_list_pop mt_popAt wr_popAt ho ha hbase hfew hline hs hplain
theorem me_pop (ho : PE X o (tVar i)) (hbase : attributeBase o "pop" X.env (eval o X.env) = eval o X.env := by rfl) (hline : (apos.endLine == cpos.line) = true := by rfl) : ME X (.Call (.Attribute o "pop" apos) [] [] cpos) (mW0 "list" i wPop) :=
  me_w0 PySem.F.plainAttrs_list PySem.F.slot_list_pop PySem.F.type_list_pop mt_pop wr_pop ho hbase hline
theorem me_reverse (ho : PE X o (tVar i)) (hbase : attributeBase o "reverse" X.env (eval o X.env) = eval o X.env := by rfl) (hline : (apos.endLine == cpos.line) = true := by rfl) : ME X (.Call (.Attribute o "reverse" apos) [] [] cpos) (mW0 "list" i wReverse) :=
  me_w0 PySem.F.plainAttrs_list PySem.F.slot_list_reverse PySem.F.type_list_reverse mt_reverse wr_reverse ho hbase hline
end

/-! ### methods that only read -/
def rmD (K : PySem.W.Frag) (g : D → List D → Option P) : V → List V → Hp → VK → Prop := fun x xs H Q => ∃ (W : AS) (dx : D) (ds : List D) (r : P), (∀ b, W b → H b ≠ none) ∧ RdV K H W x dx ∧ RdVs K H W xs ds ∧ g dx ds = some r ∧ ∀ v H', Out K H W v H' r → Q v H'
@[simp] def kindR (T : String) : D → Bool
  | .str _ => T == "str"
  | .lst _ => T == "list"
  | .frz _ => T == "list"
  | .dct _ _ => T == "dict"
  | .tup _ => T == "tuple"
  | _ => false
/-- of that type, without attributes of its own -/
def TyN (X : Cx) (T : String) (x : V) (H : Hp) : Prop := ∀ (pins : List (Addr × Obj)) (σ : L2.St) (s : Shared) (v : Value), L2.Inv X pins σ H s → RelV x v → s.TypeIs v T ∧ ∀ a, v = .ref a → ∃ ob, s.heap.get? a = some ob ∧ ob.dict = none
theorem tyN_of {X : Cx} {T : String} {x : V} {H : Hp} (h : tyV X.K T x H) : TyN X T x H := fun pins σ s v I r => tyV_is I r h
theorem tyN_tup {X : Cx} {a : Addr} {vs : List V} {H : Hp} (t : TupAt H a vs) : TyN X "tuple" (.ref a) H := fun pins σ s v I r => by
  cases r
  obtain ⟨o, h, hd⟩ := t
  obtain ⟨h1, h2⟩ := (show ObjOk X.prog X.w H s.heap a (.frz o (.tup vs)) from I.hok a _ h)
  obtain ⟨_, its, _, o', ho, hc, _⟩ := h2
  rw [h1] at ho
  cases ho
  exact ⟨⟨o, h1, hc⟩, fun b e => by cases e; exact ⟨o, h1, hd⟩⟩
def tBN0 (X : Cx) (T : String) (r : V → List V → Hp → VK → Prop) (to : TE) : TE := fun σ H Q => to σ H fun x H1 => TyN X T x H1 ∧ r x [] H1 Q
def tBN (X : Cx) (T : String) (r : V → List V → Hp → VK → Prop) (to : TE) (t : TA) : TE := fun σ H Q => to σ H fun x H1 => TyN X T x H1 ∧ t σ H1 fun xs H2 => r x xs H2 Q
section
variable {X : Cx} {o e : Expr} {es : List Expr} {to : TE} {t : TA} {name : Str} {apos cpos : Pos} {T id : String} {r : V → List V → Hp → VK → Prop}
theorem pe_bn0 (pa : PlainAttrs T) (slot : Slot T name id) (hty : typeOf (.builtin id) = pure (.type "method_descriptor")) (hm : MtR X id r) (ho : PE X o to)
    (hbase : attributeBase o name X.env (eval o X.env) = eval o X.env := by rfl) (hline : (apos.endLine == cpos.line) = true := by rfl) : PE X (.Call (.Attribute o name apos) [] [] cpos) (tBN0 X T r to) := by
  refine ⟨fun pins s σ H Q I h => ?_⟩
  refine wpAny_Call_method0_late hbase hline (thn (ho.run pins s σ H _ I h) fun v s1 ⟨x, H1, I1, r1, ty, q1⟩ => ?_)
  obtain ⟨h1, h2⟩ := ty _ _ _ _ I1 r1
  exact ⟨T, id, pa, slot, hty, h1, h2, Calls.callWith_builtin rfl (PySem.evalArgs_none (hm pins s1 σ H1 x [] v [] Q I1 r1 .nil q1))⟩
theorem pe_bn (pa : PlainAttrs T) (slot : Slot T name id) (hty : typeOf (.builtin id) = pure (.type "method_descriptor")) (hm : MtR X id r) (ho : PE X o to) (ha : PA X (e :: es) t)
    (hbase : attributeBase o name X.env (eval o X.env) = eval o X.env := by rfl)
    (hfew : ((backTo cpos (starEach (e :: es) X.env)).all (fun x => !x.1) && (backToKw cpos (keywordEach [] X.env)).all (fun x => x.1.isSome)
      && decide ((e :: es).length + ([] : List Keyword).length + (if ([] : List Keyword).isEmpty then 0 else 1) < 30)) = true := by rfl)
    (hline : (apos.endLine == cpos.line) = true := by rfl) (hs : starEach (e :: es) X.env = (false, eval e X.env) :: starEach es X.env := by rfl) (hplain : (backTo cpos (starEach es X.env)).any (·.1) = false := by rfl) :
    PE X (.Call (.Attribute o name apos) (e :: es) [] cpos) (tBN X T r to t) := by
  refine ⟨fun pins s σ H Q I h => ?_⟩
  refine wpAny_Call_method_late hbase hfew hline rfl (thn (ho.run pins s σ H _ I h) fun v s1 ⟨x, H1, I1, r1, ty, q1⟩ => ?_)
  obtain ⟨h1, h2⟩ := ty _ _ _ _ I1 r1
  refine ⟨T, id, pa, slot, hty, h1, h2, ?_⟩
  have hA := ha.run cpos pins s1 σ H1 _ I1 q1
  rw [hs] at hA ⊢
  refine Calls.callWith_builtin (by show (false || (backTo cpos (starEach es X.env)).any (·.1)) = false; rw [hplain] <;> rfl) (Calls.evalArgs_plain ?_)
  exact thn hA fun us s2 ⟨vs, H2, I2, r2, q2⟩ => hm pins s2 σ H2 x vs v us Q I2 r1 r2 q2
end
theorem RdV.ty {X : Cx} {H : Hp} {W : AS} {v : V} {d : D} {T : String} (r : RdV X.K H W v d) (e : kindR T d = true) : TyN X T v H := by
  cases d with
  | str x => cases r.str; exact tyN_of (show T = "str" by simpa [kindR] using e)
  | lst ds => obtain ⟨a, vs, rfl, h, _⟩ := r.lst; exact tyN_of (.inl ⟨by simpa [kindR] using e, vs, SqL.of h⟩)
  | frz ds => obtain ⟨a, vs, rfl, h, _⟩ := r.frz; exact tyN_of (.inl ⟨by simpa [kindR] using e, vs, h⟩)
  | tup ds =>
    obtain ⟨a, vs, rfl, h, _⟩ := r.tup
    have : T = "tuple" := by simpa [kindR] using e
    subst this
    exact tyN_tup h
  | dct ks ds => obtain ⟨a, vs, rfl, h, _⟩ := r.dct; exact tyN_of (.inr (.inr (.inl ⟨by simpa [kindR] using e, .inl ⟨_, h⟩⟩)))
  | _ => cases e
def mM (T : String) (g : D → List D → Option P) (fo : EF) (fs : AF) : EF := fun m => match fo m with
  | some (p, m1) => match rd p m1 with
    | some d0 => if kindR T d0 then (match fs m1 with
      | some (ps, m2) => match rd p m2, rds ps m2 with
        | some d, some ds => match g d ds with
          | some r => some (r, m2)
          | none => none
        | _, _ => none
      | none => none) else none
    | none => none
  | none => none
def mM0 (T : String) (g : D → List D → Option P) (fo : EF) : EF := fun m => match fo m with
  | some (p, m1) => match rd p m1 with
    | some d0 => if kindR T d0 then (match g d0 [] with
      | some r => some (r, m1)
      | none => none) else none
    | none => none
  | none => none
section
variable {X : Cx} {o e : Expr} {es : List Expr} {name : Str} {apos cpos : Pos} {T id : String} {g : D → List D → Option P} {fo : EF} {fs : AF}
theorem me_m0 (pa : PlainAttrs T) (slot : Slot T name id) (hty : typeOf (.builtin id) = pure (.type "method_descriptor")) (hm : MtR X id (rmD X.K g)) (ho : ME X o fo)
    (hbase : attributeBase o name X.env (eval o X.env) = eval o X.env := by rfl) (hline : (apos.endLine == cpos.line) = true := by rfl) : ME X (.Call (.Attribute o name apos) [] [] cpos) (mM0 T g fo) :=
  (pe_bn0 pa slot hty hm ho hbase hline).weak fun σ H Q ⟨C, Z, m, p, m', S, e, k⟩ => by
    unfold mM0 at e
    split at e
    · rename_i p1 n1 e1
      split at e
      · rename_i d0 e2
        split at e
        · rename_i kb
          split at e
          · rename_i r er
            cases e
            refine tE_one S e1 fun v H1 Z1 E1 S1 r1 => ⟨(S1.rd r1.rp e2).ty kb, Z1.W, d0, [], p, S1.wdom, S1.rd r1.rp e2, .nil, er, fun w H' o => ?_⟩
            obtain ⟨E3, S3, r3⟩ := o.fin S1
            exact k w H' Z1 (E1.trans E3) S3 (r3.back E1)
          · cases e
        · cases e
      · cases e
    · cases e
theorem me_m (pa : PlainAttrs T) (slot : Slot T name id) (hty : typeOf (.builtin id) = pure (.type "method_descriptor")) (hm : MtR X id (rmD X.K g)) (ho : ME X o fo) (ha : MA X (e :: es) fs)
    (hbase : attributeBase o name X.env (eval o X.env) = eval o X.env := by rfl)
    (hfew : ((backTo cpos (starEach (e :: es) X.env)).all (fun x => !x.1) && (backToKw cpos (keywordEach [] X.env)).all (fun x => x.1.isSome)
      && decide ((e :: es).length + ([] : List Keyword).length + (if ([] : List Keyword).isEmpty then 0 else 1) < 30)) = true := by rfl)
    (hline : (apos.endLine == cpos.line) = true := by rfl) (hs : starEach (e :: es) X.env = (false, eval e X.env) :: starEach es X.env := by rfl) (hplain : (backTo cpos (starEach es X.env)).any (·.1) = false := by rfl) :
    ME X (.Call (.Attribute o name apos) (e :: es) [] cpos) (mM T g fo fs) :=
  (pe_bn pa slot hty hm ho ha hbase hfew hline hs hplain).weak fun σ H Q ⟨C, Z, m, p, m', S, e, k⟩ => by
    unfold mM at e
    split at e
    · rename_i p1 n1 e1
      split at e
      · rename_i d0 e2
        split at e
        · rename_i kb
          split at e
          · rename_i ps n2 e3
            split at e
            · rename_i d ds e4 e5
              split at e
              · rename_i r er
                cases e
                refine tE_one S e1 fun v H1 Z1 E1 S1 r1 => ⟨(S1.rd r1.rp e2).ty kb, C, Z1, n1, ps, m', S1, e3, fun vs H2 Z2 E2 S2 r2 => ?_⟩
                refine ⟨Z2.W, d, ds, p, S2.wdom, S2.rd (r1.rp.ks (S1.ks E2)) e4, S2.rds r2 e5, er, fun w H' o => ?_⟩
                obtain ⟨E3, S3, r3⟩ := o.fin S2
                exact k w H' Z2 ((E1.trans E2).trans E3) S3 (r3.back (E1.trans E2))
              · cases e
            · cases e
          · cases e
        · cases e
      · cases e
    · cases e
end

/-! ### o[i] = v -/
structure StOk (K : PySem.W.Frag) (r : TSet) (g : D → D → D → Option D) : Prop where
  run : ∀ {H : Hp} {W : AS} {a : Addr} {x v : V} {d dx dv d' : D} {Q : Hp → Prop}, W a → Own K H W a d → RdV K H W x dx → Rep K H W v dv → g d dx dv = some d' →
    (∀ o, Own K (upd H a o) W a d' → Q (upd H a o)) → r (.ref a) x v H Q
def gSubD (i : Nat) (g : D → D → D → Option D) (fi : EF) : GF := fun dv m => if (wrt i m).isSome then (match fi m with
  | some (p, m1) => match rd p m1, wrt i m1 with
    | some dx, some (t, d) => match g d dx dv with
      | some d' => some (m1.set i (some (t, d')))
      | none => none
    | _, _ => none
  | none => none) else none
theorem wrt_at {K : PySem.W.Frag} {C : Ct} {Z : Zn} {m : MS} {σ : L2.St} {H : Hp} {i : Nat} (S : SR K C Z m σ H) (e : (wrt i m).isSome = true) : ∃ a, σ[i]? = some (some (V.ref a)) := by
  obtain ⟨⟨t, d⟩, ew⟩ := Option.isSome_iff_exists.mp e
  obtain ⟨em, ht⟩ := wrt_get ew
  obtain ⟨a, h1, _⟩ := S.own i t d em (by rcases ht with h | h <;> (rw [h]; decide))
  exact ⟨a, h1⟩

@[simp] def lSet : D → D → D → Option D
  | .lst ds, .int k, dv => match ixN ds.length k with
    | some j => some (.lst (ds.set j dv))
    | none => none
  | _, _, _ => none
def putD (ks : List Key) (ds : List D) (k : Key) (d : D) : List Key × List D := if ks.any (fun j => decide (j = k)) then (ks, (ks.zip ds).map fun p => if p.1 = k then d else p.2) else (ks ++ [k], ds ++ [d])
@[simp] def dSet : D → D → D → Option D
  | .dct ks ds, dx, dv => match keyD dx with
    | some k => if ks.length < sizeLine then some (.dct (putD ks ds k dv).1 (putD ks ds k dv).2) else none
    | none => none
  | _, _, _ => none
section
variable {X : Cx} {o e : Expr} {i : Nat} {fi : EF} {pos : Pos} {r : TSet} {g : D → D → D → Option D}
theorem mg_sub (ho : PE X o (tVar i)) (hi : ME X e fi) (hs : PSet X r) (w : StOk X.K r g) (ha : ∀ v, assign (.Subscript o e pos) X.env v = (do
      let ov ← holding [v] (eval o X.env)
      let iv ← holding [v, ov] (eval e X.env)
      standAt pos
      holding [v, ov, iv] (setItem ov iv v)
      release [v, ov, iv] []) := by intro _; rfl) : MG X (.Subscript o e pos) [] (gSubD i g fi) :=
  (pg_sub ho hi hs ha).weak fun v σ H Q ⟨C, Z, m, d, m', S, rv, e, k⟩ => by
    unfold gSubD at e
    split at e
    · rename_i hw
      obtain ⟨a, h1⟩ := wrt_at S hw
      split at e
      · rename_i p m1 e1
        split at e
        · rename_i dx t d0 e2 ew
          split at e
          · rename_i d' eg
            cases e
            refine ⟨_, h1, tE_one S e1 fun x H1 Z1 E1 S1 r1 => ?_⟩
            obtain ⟨em, ht⟩ := wrt_get ew
            obtain ⟨a', g1, g2, g3, _⟩ := S1.own i t d0 em (by rcases ht with h | h <;> (rw [h]; decide))
            rw [h1] at g1
            cases g1
            refine w.run g2 g3 (S1.rd r1.rp e2) (rv.ks (S.ks E1)) eg fun o ow => ?_
            obtain ⟨ev, S'⟩ := S1.write em ht h1 ow
            exact k σ _ Z1 (E1.trans ev) S' fun _ _ => rfl
          · cases e
        · cases e
      · cases e
    · cases e
end
theorem st_list {K : PySem.W.Frag} : StOk K rSetL lSet := ⟨fun {H W a x v d dx dv d' Q} w o rx rv g k => by
  unfold lSet at g
  split at g
  · rename_i ds i1
    split at g
    · rename_i j ej
      cases g
      obtain ⟨vs, h, rr⟩ := o
      cases rx.int
      exact ⟨a, vs, _, j, rfl, rfl, h, by rw [rr.length]; exact ej, k _ ⟨_, upd_same, (Reps.set rv j rr).ks (ks_own w)⟩⟩
    · cases g
  · cases g⟩
theorem zip_map {K : PySem.W.Frag} {H : Hp} {W : AS} {k : Key} {v : V} {d : D} (r : Rep K H W v d) : ∀ {ks : List Key} {vs : List V} {ds : List D}, ks.length = vs.length → Reps K H W vs ds →
    ∃ us, (ks.zip vs).map (fun kv => if kv.1 = k then (kv.1, v) else kv) = ks.zip us ∧ ks.length = us.length ∧ Reps K H W us ((ks.zip ds).map fun p => if p.1 = k then d else p.2)
  | [], [], _, _, .nil => ⟨[], rfl, rfl, .nil⟩
  | k' :: ks, u :: vs, d' :: ds, l, .cons r1 t => by
    obtain ⟨us, h1, h2, h3⟩ := zip_map (k := k) (ks := ks) r (by simpa using l) t
    by_cases e : k' = k
    · exact ⟨v :: us, by simp [e, h1], by simp [h2], by simpa [e] using Reps.cons r h3⟩
    · exact ⟨u :: us, by simp [e, h1], by simp [h2], by simpa [e] using Reps.cons r1 h3⟩
theorem zip_any {k : Key} : ∀ {ks : List Key} {vs : List V}, ks.length = vs.length → ((ks.zip vs).any fun kv => decide (kv.1 = k)) = ks.any fun j => decide (j = k)
  | [], [], _ => rfl
  | k' :: ks, u :: vs, l => by
    rw [List.zip_cons_cons, List.any_cons, List.any_cons, zip_any (by simpa using l)]
theorem putK_zip {K : PySem.W.Frag} {H : Hp} {W : AS} {k : Key} {v : V} {d : D} {ks : List Key} {vs : List V} {ds : List D} (r : Rep K H W v d) (l : ks.length = vs.length) (rr : Reps K H W vs ds) :
    ∃ us, putK (ks.zip vs) k v = (putD ks ds k d).1.zip us ∧ (putD ks ds k d).1.length = us.length ∧ Reps K H W us (putD ks ds k d).2 := by
  unfold putK putD
  rw [zip_any l]
  by_cases h : (ks.any fun j => decide (j = k)) = true
  · rw [if_pos h, if_pos h]
    exact zip_map r l rr
  · rw [if_neg h, if_neg h]
    exact ⟨vs ++ [v], by rw [List.zip_append l]; rfl, by simp [l], rr.append (.cons r .nil)⟩
theorem st_dict {K : PySem.W.Frag} : StOk K rSetD dSet := ⟨fun {H W a x v d dx dv d' Q} w o rx rv g k => by
  unfold dSet at g
  split at g
  · rename_i ks ds dx dv
    split at g
    · rename_i ky ek
      split at g
      · rename_i hz
        cases g
        obtain ⟨vs, h, l, rr⟩ := o
        have := keyD_kV rx ek
        subst this
        obtain ⟨us, h1, h2, h3⟩ := putK_zip (k := ky) rv l rr
        refine ⟨a, _, rfl, DPut.k h (by rw [List.length_zip, ← l]; omega), k _ ⟨us, ?_, h2, h3.ks (ks_own w)⟩⟩
        rw [upd_same, h1]
      · cases g
    · cases g
  · cases g⟩
end VL

set_option Elab.async false
set_option linter.all false
set_option maxRecDepth 100000
set_option autoImplicit false
/-! The value layer, part 15: slices turned about, order, min, max, sorted, count, range lists. -/
namespace VL
open PySem PySem.Spec L2

/-! ### xs[::-1] -/
theorem adj_rev (n : Nat) : Builtin.Slice.sliceAdjust none none (-1) (n : Int) = ((n : Int) - 1, -1) := by
  unfold Builtin.Slice.sliceAdjust
  simp
theorem places_rev (n : Nat) : Builtin.Slice.slicePlaces ((n : Int) - 1) (-1) (-1) = n := by
  unfold Builtin.Slice.slicePlaces
  have h1 : ¬ ((-1 : Int) > 0) := by decide
  simp only [h1, if_false]
  by_cases h : (n : Int) - 1 > -1
  · simp only [h, if_true]
    have : ((n : Int) - 1 - -1 - 1) / (- -1) = (n : Int) - 1 := by
      rw [show (- -1 : Int) = 1 by decide, Int.ediv_one]; omega
    rw [this]; omega
  · simp only [h, if_false]; omega
theorem range_rev (n : Nat) : (List.range n).map (fun k => n - 1 - k) = (List.range n).reverse := PySem.W.krv_range n
theorem fm_congr {α β : Type} {f g : α → Option β} : ∀ {l : List α}, (∀ m ∈ l, f m = g m) → l.filterMap f = l.filterMap g
  | [], _ => rfl
  | a :: l, h => by
    rw [List.filterMap_cons, List.filterMap_cons, h a List.mem_cons_self, fm_congr fun m hm => h m (List.mem_cons_of_mem _ hm)]
theorem pick_rev (xs : Array Value) : ((List.range xs.size).filterMap fun (m : Nat) => xs[(((xs.size : Int) - 1) + (m : Int) * (-1)).toNat]?).toArray = xs.toList.reverse.toArray := by
  have e : ∀ m ∈ List.range xs.size, xs[(((xs.size : Int) - 1) + (m : Int) * (-1)).toNat]? = xs[xs.size - 1 - m]? := by
    intro m hm
    have := List.mem_range.mp hm
    rw [show (((xs.size : Int) - 1) + (m : Int) * (-1)).toNat = xs.size - 1 - m by omega]
  rw [fm_congr e]
  have e2 : (List.range xs.size).filterMap (fun m => xs[xs.size - 1 - m]?) = ((List.range xs.size).map fun k => xs.size - 1 - k).filterMap (fun x => xs[x]?) := by
    rw [List.filterMap_map]; rfl
  rw [e2, range_rev, List.filterMap_reverse, PySem.W.krv_all]
section
variable {prog : Program} {w : World} {A : Around} {E : Value → Shared → Prop} {s : Shared}
theorem sliceApplied_rev {sl : Addr} {vs : Value} {n : Nat} {Q : Int × Int × Nat → Shared → Prop} (hs : s.heap.IsSliceOf sl .none .none vs) (ps : IsPart vs (some (-1)))
    (h : Q ((n : Int) - 1, -1, n) s) : wpAny (model prog w) A (Builtin.Slice.sliceApplied (.ref sl) (pure (n : Int))) Q E s := by
  obtain ⟨os, hos, hcs, hds⟩ := id hs
  unfold Builtin.Slice.sliceApplied Builtin.Slice.sliceFields
  refine wpAny_bind (wpAny_bind (wpAny_field hos hds (x := .none) rfl (wpAny_bind (wpAny_field hos hds (x := .none) rfl (wpAny_bind (wpAny_field hos hds (x := vs) rfl (wpAny_pure ?_)))))))
  refine wpAny_bind (HT.slicePart_ ps ?_)
  show wpAny _ _ (if ((-1 : Int) == 0) = true then _ else _) _ _ s
  rw [if_neg (by decide)]
  refine wpAny_bind (HT.slicePart_ .none (wpAny_bind (HT.slicePart_ .none (wpAny_bind (wpAny_pure ?_)))))
  show wpAny _ _ (match Builtin.Slice.sliceAdjust none none (-1) (n : Int) with | (lo, hi) => pure (lo, (-1 : Int), Builtin.Slice.slicePlaces lo hi (-1))) _ _ s
  rw [adj_rev n]
  show wpAny _ _ (pure (((n : Int) - 1), (-1 : Int), Builtin.Slice.slicePlaces ((n : Int) - 1) (-1) (-1))) _ _ s
  rw [places_rev]
  exact wpAny_pure h
theorem getItem_tuple_rev {t sl : Addr} {items : Array Value} {vs : Value} {Q : Value → Shared → Prop} (ht : PyProof.Rows.IsTup s.heap t items) (hs : s.heap.IsSliceOf sl .none .none vs) (ps : IsPart vs (some (-1)))
    (h : Q (.ref s.heap.objs.size) { s with heap := s.heap.push { cls := .type "tuple", data := .seq items.toList.reverse.toArray } })
    (hsz : items.size ≤ sizeLine) : wpAny (model prog w) A (getItem (.ref t) (.ref sl)) Q E s := by
  have htake : sizeOk (.seq items.toList.reverse.toArray) := by
    show items.toList.reverse.toArray.size ≤ sizeLine
    rw [List.size_toArray, List.length_reverse, Array.length_toList]
    exact hsz
  obtain ⟨os, hos, hcs, hds⟩ := id hs
  have hTs : s.TypeIs (.ref sl) "slice" := ⟨os, hos, hcs⟩
  unfold getItem
  try with_reducible refine wpAny_holding ?_
  first | refine wpAny_bind (wpAny_pure ?_) | skip
  refine wpAny_bind (wpAny_sequenceKey ht.typeIs (by decide) ?_)
  refine wpAny_bind (wpAny_callSpecial?_slot (name := Str.ofString "__getitem__") ht.typeIs PyProof.Rows.slot_tuple_getitem
    (wpAny_call_entry PyProof.Rows.slot_tuple_getitem ht.typeIs PyProof.Rows.entry_tuple_getitem ?_ (PyProof.Rows.args_tuple_getitem _ _)))
  show wpAny _ _ (Builtin.Tuple.tupleItemsOf (.ref t) >>= _) _ _ s
  refine wpAny_bind (PyProof.Rows.tupleItemsOf_ ht ?_)
  refine wpAny_bind (wpAny_typeOf hTs ?_)
  rw [if_pos (by decide)]
  refine wpAny_bind (sliceApplied_rev hs ps ?_)
  have hno : ¬ ((((items.size : Int) - 1) == 0 && (-1 : Int) == 1 && items.size == items.size) = true) := by
    rw [show ((-1 : Int) == 1) = false by decide]
    simp
  show wpAny _ _ (if (((items.size : Int) - 1) == 0 && (-1 : Int) == 1 && items.size == items.size) = true then _ else _) _ _ s
  rw [if_neg hno, pick_rev]
  first
    | exact wpAny_bind (m := Builtin.Tuple.tupleExact _) (wpAny_newObj_type (wpAny_pure ⟨_, rfl, wpAny_pure h⟩) htake)
    | exact wpAny_bind (m := Builtin.Tuple.tupleExact _) (wpAny_newObj_type (wpAny_bind (wpAny_pure (wpAny_pure ⟨_, rfl, wpAny_pure h⟩))) htake)
    | exact wpAny_bind (wpAny_bind (m := Builtin.Tuple.tupleExact _) (wpAny_newObj_type (wpAny_pure (wpAny_pure ⟨_, rfl, wpAny_pure h⟩)) htake))
    | exact wpAny_bind (wpAny_bind (m := Builtin.Tuple.tupleExact _) (wpAny_newObj_type (wpAny_pure ⟨_, rfl, wpAny_pure h⟩) htake))
end
/-- a text turned about -/
def revS (x : Str) : Str := ⟨x.cps.toList.reverse.toArray⟩
def tRevX (K : PySem.W.Frag) (te : TE) : TE := fun σ H Q => te σ H fun x H1 => (∃ a xs, x = .ref a ∧ SqL K H1 a xs ∧ ∀ p, H1 p = none → Q (.ref p) (upd H1 p (.lst xs.reverse))) ∨
  (∃ a xs, x = .ref a ∧ SqT K H1 a xs ∧ ∀ p o, o.dict = none → H1 p = none → Q (.ref p) (upd H1 p (.frz o (.tup xs.reverse)))) ∨ ∃ z, x = .str z ∧ z.length ≤ sizeLine ∧ Q (.str (revS z)) H1
section
variable {X : Cx}
theorem strIx_rev (n : Nat) : Builtin.Str.strSliceIndices none none (-1) n = (List.range n).reverse := by
  unfold Builtin.Str.strSliceIndices
  show sliceRange ((n : Int) - 1) (-1) (-1) = _
  rw [PySem.W.krv_sliceRange, range_rev]
theorem pe_revX {e : Expr} {te : TE} {k : Nat} {p1 p2 p3 pos : Pos} (he : PE X e te) : PE X (.Subscript e (.Slice none none (some (.UnaryOp .USub (.Constant (.int 1) k p1) p2)) p3) pos) (tRevX X.K te) := by
  refine ⟨fun pins s σ H Q I h => ?_⟩
  refine PyProof.Rows.Subscript_ (thn (he.run pins s σ H _ I h) fun v s1 ⟨x, H1, I1, r1, q1⟩ => ?_)
  have hst : PO X (some (.UnaryOp .USub (.Constant (.int 1) k p1) p2)) (tPart (tUn (rU fun i => .int (-i)) (tC (.int 1)))) := po_some (pe_un un_neg pe_int)
  refine wpAny_Slice (thn (po_none.run pins s1 σ H1 (fun o H2 => o = none ∧ H2 = H1) I1 ⟨rfl, rfl⟩) fun vl s2 ⟨l, H2, I2, pl, el, e2⟩ => ?_)
  subst el e2
  refine thn (po_none.run pins s2 σ H2 (fun o H3 => o = none ∧ H3 = H2) I2 ⟨rfl, rfl⟩) fun vu s3 ⟨u, H3, I3, pu, eu, e3⟩ => ?_
  subst eu e3
  refine thn (hst.run pins s3 σ H3 (fun o H4 => o = some (-1) ∧ H4 = H3) I3 ⟨1, rfl, -1, rfl, rfl, rfl⟩) fun vs s4 ⟨o, H4, I4, ps, eo, e4⟩ => ?_
  subst eo e4
  have I5 : Inv X pins σ H4 { s4 with heap := s4.heap.push { cls := .type "slice", data := .fields #[vl, vu, vs] } } := I4.kept (t' := s4.toks) fun b ob q => Heap.get?_push_of_some _ q
  cases pl
  cases pu
  rcases q1 with ⟨a, xs, ex, hx, q⟩ | ⟨a, xs, ex, hx, q⟩ | ⟨z, ex, hz, q⟩
  · subst ex
    cases r1
    obtain ⟨its, r, ht, hz⟩ := I5.list hx
    have hlen := r.length
    show wpAny (model X.prog X.w) X.A (PyProof.Rows.subscriptTail e (.Slice none none (some (.UnaryOp .USub (.Constant (.int 1) k p1) p2)) p3) (.ref a) (.ref s4.heap.objs.size)) (EP X pins σ Q) X.xe { s4 with heap := s4.heap.push { cls := .type "slice", data := .fields #[.none, .none, vs] } }
    refine PyProof.Rows.tail_any (ops := [.ref a, .ref s4.heap.objs.size]) ht.isList.typeIs (PySem.slot_list_getitem.lookup) ?_ (by with_unfolding_all rfl)
    refine wpAny_getItem_list_slice ht.isList (Heap.IsSliceOf.new _ .none .none vs) .none .none ps (by decide) ?_ (by rw [List.size_toArray]; omega)
    rw [PySem.W.krv_pick]
    refine ⟨.ref _, _, I5.laid (t' := s4.toks) (o := .lst xs.reverse) (fun b ob q => Heap.get?_push_of_some _ q) (Nat.le_refl _) ?_, rfl, q _ (I5.hok.fresh (Nat.le_refl _))⟩
    exact ⟨by rw [List.length_reverse]; exact hz, _, 0, r.reverse, Heap.get?_push_size _ rfl⟩
  · subst ex
    cases r1
    obtain ⟨its, r, ht, hz⟩ := I5.tuple hx
    have hlen := r.length
    show wpAny (model X.prog X.w) X.A (PyProof.Rows.subscriptTail e (.Slice none none (some (.UnaryOp .USub (.Constant (.int 1) k p1) p2)) p3) (.ref a) (.ref s4.heap.objs.size)) (EP X pins σ Q) X.xe { s4 with heap := s4.heap.push { cls := .type "slice", data := .fields #[.none, .none, vs] } }
    refine PyProof.Rows.tail_any (ops := [.ref a, .ref s4.heap.objs.size]) ht.typeIs (PyProof.Rows.slot_tuple_getitem.lookup) ?_ (by with_unfolding_all rfl)
    refine getItem_tuple_rev ht (Heap.IsSliceOf.new _ .none .none vs) ps ?_ (by rw [List.size_toArray]; omega)
    exact ⟨.ref _, _, laidT I5 r.reverse (by rw [List.length_reverse]; exact hz), rfl, q _ _ rfl (I5.hok.fresh (Nat.le_refl _))⟩
  · subst ex
    obtain ⟨t, rfl⟩ := r1
    cases ps with
    | int i tk =>
      show wpAny (model X.prog X.w) X.A (PyProof.Rows.subscriptTail e (.Slice none none (some (.UnaryOp .USub (.Constant (.int 1) k p1) p2)) p3) (.str z t) (.ref s4.heap.objs.size)) (EP X pins σ Q) X.xe { s4 with heap := s4.heap.push { cls := .type "slice", data := .fields #[.none, .none, .int (-1) tk] } }
      refine PyProof.Rows.tail_any (ops := [.str z t, .ref s4.heap.objs.size]) (typeIs_str _ z t) (PySem.F.slot_str_getitem.lookup) ?_ (by with_unfolding_all rfl)
      refine wpAny_getItem_str_slice (l := none) (u := none) (st := some (-1, tk)) ⟨_, Heap.get?_push_size _ rfl, rfl, rfl⟩ rfl ?_
      unfold sliceMade
      rw [if_neg (by simp)]
      have e1 : slicePicked z none none (some (-1, tk)) = (List.range z.length).reverse := strIx_rev _
      have e2 : (⟨((slicePicked z none none (some (-1, tk))).filterMap (z.cps[·]?)).toArray⟩ : Str) = revS z := by
        rw [e1, List.filterMap_reverse]
        unfold revS
        have := PySem.W.krv_all z.cps
        rw [show z.length = z.cps.size from rfl, this]
      rw [e2]
      exact ⟨by show z.cps.toList.reverse.toArray.size ≤ sizeLine; rw [List.size_toArray, List.length_reverse, Array.length_toList]; exact hz, .str (revS z), H4, I5.tok _, ⟨_, rfl⟩, q⟩
end
@[simp] def dRev : D → Option P
  | .lst ds => some (.fresh (.lst ds.reverse))
  | .frz ds => some (.fresh (.lst ds.reverse))
  | .tup ds => some (.val (.tup ds.reverse))
  | .str z => if z.length ≤ sizeLine then some (.val (.str (revS z))) else none
  | _ => none
section
variable {X : Cx}
theorem me_rev {e : Expr} {f : EF} {k : Nat} {p1 p2 p3 pos : Pos} (he : ME X e f) : ME X (.Subscript e (.Slice none none (some (.UnaryOp .USub (.Constant (.int 1) k p1) p2)) p3) pos) (m1 dRev f) :=
  (pe_revX he).weak fun σ H Q ⟨C, Z, m, p, m', S, e, k⟩ => by
    unfold m1 at e
    split at e
    · rename_i p1 n1 e1
      split at e
      · rename_i x ex
        split at e
        · rename_i r er
          cases e
          refine tE_one S e1 fun v H1 Z1 E1 S1 r1 => ?_
          have hr := S1.rd r1.rp ex
          have fin : ∀ {u : V} {H2 : Hp}, Out X.K H1 Z1.W u H2 p → Q u H2 := fun o => by
            obtain ⟨E3, S3, r3⟩ := o.fin S1
            exact k _ _ Z1 (E1.trans E3) S3 (r3.back E1)
          unfold dRev at er
          split at er
          · cases er
            obtain ⟨a, vs, rfl, h1, r2⟩ := hr.lst
            exact .inl ⟨a, vs, rfl, SqL.of h1, fun q hq => fin (out_lst S1.wdom hq r2.reverse)⟩
          · cases er
            obtain ⟨a, vs, rfl, h1, r2⟩ := hr.frz
            exact .inl ⟨a, vs, rfl, h1, fun q hq => fin (out_lst S1.wdom hq r2.reverse)⟩
          · cases er
            obtain ⟨a, vs, rfl, h1, r2⟩ := hr.tup
            exact .inr (.inl ⟨a, vs, rfl, h1.seq, fun q o ho hq => fin (out_tup ho S1.wdom hq r2.reverse)⟩)
          · split at er
            · rename_i hz
              cases er
              cases hr.str
              exact .inr (.inr ⟨_, rfl, hz, fin (out_at (.str _))⟩)
            · cases er
          · cases er
        · cases e
      · cases e
    · cases e

/-! ### list(range(..)) -/
def rgOk (a b : Int) : Bool := decide (-(2 ^ 62) ≤ a) && decide (a < 2 ^ 62) && decide (-(2 ^ 62) ≤ b) && decide (b < 2 ^ 62) && decide ((b - a).toNat ≤ 2 ^ 24)
theorem rgOk_ok {a b : Int} (h : rgOk a b = true) : RgOk a b := by
  unfold rgOk at h
  simp only [Bool.and_eq_true, decide_eq_true_eq] at h
  exact ⟨h.1.1.1.1, h.1.1.1.2, h.1.1.2, h.1.2, h.2⟩
theorem reps_rg {K : PySem.W.Frag} {H : Hp} {W : AS} (a : Int) : ∀ l : List Nat, Reps K H W (l.map fun i => V.int (a + (i : Nat))) (l.map fun i => D.int (a + (i : Nat) * 1))
  | [] => .nil
  | i :: l => .cons (by show Rep K H W (.int (a + (i : Nat))) (.int (a + (i : Nat) * 1)); rw [Int.mul_one]; exact .int _) (reps_rg a l)
def mLr1 (f : EF) : EF := fun m => match f m with
  | some (p, m1) => match rd p m1 with
    | some (.int b) => if rgOk 0 b then some (.fresh (.lst (rangeD 0 1 b.toNat)), m1) else none
    | _ => none
  | none => none
def mLr2 (f g : EF) : EF := fun m => match f m with
  | some (p, m1) => match g m1 with
    | some (q, m2) => match rd p m2, rd q m2 with
      | some (.int a), some (.int b) => if rgOk a b then some (.fresh (.lst (rangeD a 1 (b - a).toNat)), m2) else none
      | _, _ => none
    | none => none
  | none => none
theorem me_listRg1 {p pos p2 pos2 : Pos} {e : Expr} {f : EF} (hc : X.calm = true) (hg : Gl X "list") (hm : X.mg "list" = none) (hg2 : Gl X "range") (hm2 : X.mg "range" = none) (he : ME X e f) (na : starEach [e] X.env = (false, eval e X.env) :: starEach [] X.env := by rfl)
    (na2 : starEach [(.Call (.Name "range" p2) [e] [] pos2 : Expr)] X.env = (false, eval (.Call (.Name "range" p2) [e] [] pos2) X.env) :: starEach [] X.env := by rfl) :
    ME X (.Call (.Name "list" p) [.Call (.Name "range" p2) [e] [] pos2] [] pos) (mLr1 f) := (pe_listRg hc hg hm (prg_1 hg2 hm2 he na) na2).weak fun σ H Q ⟨C, Z, m, p, m', S, e, k⟩ => by
  unfold mLr1 at e
  split at e
  · rename_i p1 n1 e1
    split at e
    · rename_i b ex
      split at e
      · rename_i ok
        cases e
        refine tE_one S e1 fun v H1 Z1 E1 S1 r1 => ?_
        cases (S1.rd r1.rp ex).int
        refine ⟨b, rfl, rgOk_ok ok, fun q hq => ?_⟩
        have o : Out X.K H1 Z1.W (.ref q) (upd H1 q (.lst (rgV 0 b))) (.fresh (.lst (rangeD 0 1 b.toNat))) := out_lst S1.wdom hq (by
          have := reps_rg (K := X.K) (H := H1) (W := Z1.W) 0 (List.range b.toNat)
          unfold rgV rangeD
          rw [Int.sub_zero]
          exact this)
        obtain ⟨E3, S3, r3⟩ := o.fin S1
        exact k _ _ Z1 (E1.trans E3) S3 (r3.back E1)
      · cases e
    · cases e
  · cases e
theorem me_listRg2 {p pos p2 pos2 : Pos} {e e' : Expr} {f g : EF} (hc : X.calm = true) (hg : Gl X "list") (hm : X.mg "list" = none) (hg2 : Gl X "range") (hm2 : X.mg "range" = none) (he : ME X e f) (he' : ME X e' g) (na : starEach [e, e'] X.env = (false, eval e X.env) :: starEach [e'] X.env := by rfl) (nb : starEach [e'] X.env = (false, eval e' X.env) :: starEach [] X.env := by rfl)
    (hp : (backTo pos2 (starEach [e'] X.env)).any (·.1) = false := by rfl)
    (na2 : starEach [(.Call (.Name "range" p2) [e, e'] [] pos2 : Expr)] X.env = (false, eval (.Call (.Name "range" p2) [e, e'] [] pos2) X.env) :: starEach [] X.env := by rfl) :
    ME X (.Call (.Name "list" p) [.Call (.Name "range" p2) [e, e'] [] pos2] [] pos) (mLr2 f g) := (pe_listRg hc hg hm (prg_2 hg2 hm2 he he' na nb hp) na2).weak fun σ H Q ⟨C, Z, m, p, m', S, e, k⟩ => by
  unfold mLr2 at e
  split at e
  · rename_i p1 n1 e1
    split at e
    · rename_i q n2 e2
      split at e
      · rename_i a b ea eb
        split at e
        · rename_i ok
          cases e
          refine tE_two S e1 e2 fun u v H1 Z1 E1 S1 r1 r2 => ?_
          cases (S1.rd r1 ea).int
          cases (S1.rd r2.rp eb).int
          refine ⟨a, b, rfl, rfl, rgOk_ok ok, fun q hq => ?_⟩
          have o : Out X.K H1 Z1.W (.ref q) (upd H1 q (.lst (rgV a b))) (.fresh (.lst (rangeD a 1 (b - a).toNat))) := out_lst S1.wdom hq (reps_rg (K := X.K) (H := H1) (W := Z1.W) a (List.range (b - a).toNat))
          obtain ⟨E3, S3, r3⟩ := o.fin S1
          exact k _ _ Z1 (E1.trans E3) S3 (r3.back E1)
        · cases e
      · cases e
    · cases e
  · cases e
end

/-! ### order -/
/-- x stands before y -/
def dLtD (x y : D) : Bool := PySem.W.dataLt (toPy x) (toPy y)
def dLeD (x y : D) : Bool := !dLtD y x
def isNoneD : D → Bool
  | .non => true
  | .dct _ _ => true
  | .frz _ => true
  | .ty _ => true
  | _ => false
/-- all of one kind -/
def likeD (ds : List D) : Bool := (ds.all fun x => ds.all fun y => PySem.W.alike (toPy x) (toPy y)) && ds.all fun x => dOk x far
def tupD : D → Bool
  | .tup (_ :: _) => true
  | _ => false
def notTupD : D → Bool
  | .tup _ => false
  | .non => false
  | .dct _ _ => false
  | .frz _ => false
  | .ty _ => false
  | _ => true
def cSorted : List D → Option P
  | [.lst ds] => if likeD ds && (ds.all tupD || ds.all notTupD) then some (.fresh (.lst (ds.mergeSort dLeD))) else none
  | _ => none
/-- the least one, the first of those -/
def minL (d : D) (ds : List D) : D := ds.foldl (fun a y => if dLtD y a then y else a) d
def maxL (d : D) (ds : List D) : D := ds.foldl (fun a y => if dLtD a y then y else a) d
@[simp] def cMin : List D → Option P
  | [.int i, .int j] => some (.val (.int (if j < i then j else i)))
  | [.lst (d :: ds)] => if likeD (d :: ds) && (d :: ds).all (fun x => !isNoneD x) then some (.val (minL d ds)) else none
  | [.tup (d :: ds)] => if likeD (d :: ds) && (d :: ds).all (fun x => !isNoneD x) then some (.val (minL d ds)) else none
  | _ => none
@[simp] def cMax : List D → Option P
  | [.int i, .int j] => some (.val (.int (if j > i then j else i)))
  | [.lst (d :: ds)] => if likeD (d :: ds) && (d :: ds).all (fun x => !isNoneD x) then some (.val (maxL d ds)) else none
  | [.tup (d :: ds)] => if likeD (d :: ds) && (d :: ds).all (fun x => !isNoneD x) then some (.val (maxL d ds)) else none
  | _ => none
open PySem.W
theorem dOks_of {n : Nat} : ∀ {ds : List D}, (ds.all fun x => dOk x n) = true → dOks ds n = true
  | [], _ => by rw [dOks]
  | d :: ds, h => by
    rw [List.all_cons, Bool.and_eq_true] at h
    rw [dOks, Bool.and_eq_true]
    exact ⟨h.1, dOks_of h.2⟩
theorem reads_each {h : Heap} : ∀ {us : List Value} {ds : List D}, VDs h us ds → EachIs (fun v b => ∃ as, Reads h v (toPy b) as) us ds
  | _, _, .nil => .nil
  | _, _, .cons r t => .cons r.reads (reads_each t)
theorem each_both {α β : Type} {R S : α → β → Prop} : ∀ {xs : List α} {ys : List β}, EachIs R xs ys → EachIs S xs ys → EachIs (fun x y => R x y ∧ S x y) xs ys
  | _, _, .nil, .nil => .nil
  | _, _, .cons h t, .cons h' t' => .cons ⟨h, h'⟩ (each_both t t')
/-- a value of the run and its data, by one value of the tracking -/
def RV (K : PySem.W.Frag) (H : Hp) (W : AS) (u : Value) (d : D) : Prop := ∃ v, RelV v u ∧ Rep K H W v d
theorem rv_each {K : PySem.W.Frag} {H : Hp} {W : AS} : ∀ {vs : List V} {us : List Value} {ds : List D}, Vals vs us → Reps K H W vs ds → EachIs (RV K H W) us ds
  | _, _, _, .nil, .nil => .nil
  | _, _, _, .cons r t, .cons q s => .cons ⟨_, r, q⟩ (rv_each t s)
theorem each_rv {K : PySem.W.Frag} {H : Hp} {W : AS} : ∀ {us : List Value} {ds : List D}, EachIs (RV K H W) us ds → ∃ vs, Vals vs us ∧ Reps K H W vs ds
  | _, _, .nil => ⟨[], .nil, .nil⟩
  | _, _, .cons ⟨v, h1, h2⟩ t => by
    obtain ⟨vs, q1, q2⟩ := each_rv t
    exact ⟨v :: vs, .cons h1 q1, .cons h2 q2⟩
theorem like_all {ds : List D} (h : likeD ds = true) : AllAlike (ds.map toPy) ∧ dOks ds far = true := by
  unfold likeD at h
  rw [Bool.and_eq_true] at h
  refine ⟨fun x hx y hy => ?_, dOks_of h.2⟩
  obtain ⟨a, ha, rfl⟩ := List.mem_map.mp hx
  obtain ⟨b, hb, rfl⟩ := List.mem_map.mp hy
  exact List.all_eq_true.mp (List.all_eq_true.mp h.1 a ha) b hb
section
variable {X : Cx}
theorem cb_sorted (hu : X.A.units + 64 < cLine) : CallR X (.builtin "sorted") (rnD X.K cSorted) := by
  intro pins s σ H xs us Q I rx ⟨W, ds, r, wd, hx, e, k⟩
  unfold cSorted at e
  split at e
  · rename_i ds
    split at e
    · rename_i hk
      cases e
      rw [Bool.and_eq_true, Bool.or_eq_true] at hk
      obtain ⟨hal, hd⟩ := like_all hk.1
      obtain ⟨v, rfl, hv⟩ := rdvs1 hx
      obtain ⟨a, vs, rfl, h1, r1⟩ := hv.lst
      rw [Vals.ref1 rx]
      obtain ⟨its, rv, pl, hz⟩ := I.list (SqL.of h1)
      have VDs1 := VDs.of I r1 rv hd
      have srt : Sortable (ds.map toPy) := by
        rcases hk.2 with q | q
        · refine .inl fun x hx => ?_
          obtain ⟨y, hy, rfl⟩ := List.mem_map.mp hx
          have := List.all_eq_true.mp q y hy
          unfold tupD at this
          split at this
          · rename_i z zs
            exact ⟨toPy z, toPys zs, by rw [toPy, toPys]⟩
          · cases this
        · refine .inr fun x hx => ?_
          obtain ⟨y, hy, rfl⟩ := List.mem_map.mp hx
          have := List.all_eq_true.mp q y hy
          cases y <;> first | exact absurd this Bool.false_ne_true | exact ⟨(fun z => by rw [toPy] at z; cases z), fun xs z => (by rw [toPy] at z; cases z)⟩
      refine sorted_data (enc := toPy) (R := RV X.K H W) pl.isList (rv_each rv r1) (reads_each VDs1) hal srt (by rw [← r1.length]; exact hz) (fun b hb => ?_) fun out hl hout => ?_
      · have := toPy_depth b far (dOks_mem hd hb)
        unfold far at this
        omega
      · obtain ⟨ws, q1, q2⟩ := each_rv hout
        have hlen : ws.length ≤ sizeLine := by rw [q1.length, hl, ← r1.length]; exact hz
        obtain ⟨ep, he'⟩ := PyProof.Rows.sortedAll_at s.heap its out.toArray
        have hp : H (s.heap.objs.size + 1) = none := I.hok.fresh (Nat.le_succ _)
        exact ⟨.ref _, upd H (s.heap.objs.size + 1) (.lst ws), I.laid (t' := s.toks) (fun _ _ => PyProof.Rows.sortedAll_old) (Nat.le_succ _) ⟨hlen, out, ep, q1, he'⟩, rfl, k _ _ (out_lst wd hp q2)⟩
    · cases e
  · cases e
theorem each_get {α β : Type} {R : α → β → Prop} : ∀ {xs : List α} {ys : List β} {i : Nat} {x : α}, EachIs R xs ys → xs[i]? = some x → ∃ y, ys[i]? = some y ∧ R x y
  | _, _, _, _, .nil, e => by simp at e
  | _, _, 0, _, .cons h _, e => by simp at e; subst e; exact ⟨_, rfl, h⟩
  | _, _, i + 1, _, .cons _ t, e => by
    obtain ⟨y, h1, h2⟩ := each_get (i := i) t (by simpa using e)
    exact ⟨y, by simpa using h1, h2⟩
/-- what reads as the least stands for the least -/
theorem minL_mem (d : D) (ds : List D) : minL d ds ∈ d :: ds := by
  unfold minL
  induction ds generalizing d with
  | nil => simp
  | cons x xs ih =>
    rw [List.foldl_cons]
    by_cases h : dLtD x d = true
    · rw [if_pos h]
      have := ih x
      exact List.mem_cons_of_mem _ this
    · rw [if_neg h]
      have := ih d
      rcases List.mem_cons.mp this with q | q
      · rw [q]; exact List.mem_cons_self
      · exact List.mem_cons_of_mem _ (List.mem_cons_of_mem _ q)
theorem maxL_mem (d : D) (ds : List D) : maxL d ds ∈ d :: ds := by
  unfold maxL
  induction ds generalizing d with
  | nil => simp
  | cons x xs ih =>
    rw [List.foldl_cons]
    by_cases h : dLtD d x = true
    · rw [if_pos h]
      have := ih x
      exact List.mem_cons_of_mem _ this
    · rw [if_neg h]
      have := ih d
      rcases List.mem_cons.mp this with q | q
      · rw [q]; exact List.mem_cons_self
      · exact List.mem_cons_of_mem _ (List.mem_cons_of_mem _ q)
theorem minD_toPy (d : D) (ds : List D) : minD (toPy d) (ds.map toPy) = toPy (minL d ds) := by
  unfold minD minL
  induction ds generalizing d with
  | nil => rfl
  | cons x xs ih =>
    rw [List.map_cons, List.foldl_cons, List.foldl_cons]
    have e : (if dataLt (toPy x) (toPy d) then toPy x else toPy d) = toPy (if dLtD x d then x else d) := by
      unfold dLtD
      split <;> rfl
    rw [e]
    exact ih _
theorem maxD_toPy (d : D) (ds : List D) : maxD (toPy d) (ds.map toPy) = toPy (maxL d ds) := by
  unfold maxD maxL
  induction ds generalizing d with
  | nil => rfl
  | cons x xs ih =>
    rw [List.map_cons, List.foldl_cons, List.foldl_cons]
    have e : (if dataLt (toPy d) (toPy x) then toPy x else toPy d) = toPy (if dLtD d x then x else d) := by
      unfold dLtD
      split <;> rfl
    rw [e]
    exact ih _
theorem like_ne {ds : List D} (h : likeD ds = true) (n : ds.all (fun x => !isNoneD x) = true) : AlikeAll (ds.map toPy) := by
  refine ⟨(like_all h).1, fun x hx => ?_⟩
  obtain ⟨y, hy, rfl⟩ := List.mem_map.mp hx
  have := List.all_eq_true.mp n y hy
  intro z
  cases y <;> first | exact absurd this Bool.false_ne_true | (rw [toPy] at z; cases z)
/-- the value that was found reads as the best one: it stands for it -/
theorem best_rep {h h' : Heap} {W : AS} {H : Hp} {K : PySem.W.Frag} {us : List Value} {vs : List V} {ds : List D} {b : D} {i : Nat} {v : Value} {as : List Addr} (rv : Vals vs us) (rr : Reps K H W vs ds) (vd : VDs h us ds) (hd : dOks ds far = true) (hb : b ∈ ds) (hv : us[i]? = some v)
    (rd : Reads h' v (toPy b) as) (hk : ∀ c o, h.get? c = some o → h'.get? c = some o) : ∃ x, RelV x v ∧ Rep K H W x b := by
  obtain ⟨d, e1, r1⟩ := vd.get hv
  obtain ⟨as1, q1⟩ := r1.reads
  have q2 := PyProof.Rows.Reads.keeps hk q1
  have e2 : toPy b = toPy d := (Reads.unique rd _ _ q2).1
  have hdm : d ∈ ds := List.mem_of_getElem? e1
  have e3 : b = d := toPy_inj b d far (dOks_mem hd hb) (dOks_mem hd hdm) e2
  obtain ⟨x, g1, g2⟩ := rr.get e1
  obtain ⟨u, g3, g4⟩ := rv.get g1
  rw [hv] at g3
  cases g3
  exact ⟨x, g4, by rw [e3]; exact g2⟩
theorem toPys_depthAll {ds : List D} (h : dOks ds far = true) : PyData.depthAll (ds.map toPy) ≤ far := by
  have := toPys_depth ds far h
  rw [toPys_map] at this
  exact this
theorem vds_readsAll {h : Heap} {us : List Value} {ds : List D} (r : VDs h us ds) : ∃ as, ReadsAll h us (ds.map toPy) as := by
  obtain ⟨as, q⟩ := r.reads
  rw [toPys_map] at q
  exact ⟨as, q⟩
theorem cb_min (hc : X.calm = true) (hu : X.A.units + 64 < cLine) : CallR X (.builtin "min") (rnD X.K cMin) := by
  intro pins s σ H xs us Q I rx ⟨W, ds, r, wd, hx, e, k⟩
  unfold cMin at e
  split at e
  · cases e
    obtain ⟨v, u, rfl, hv, hw⟩ := rdvs2 hx
    cases hv.int; cases hw.int
    exact call_min2 hc pins s σ H _ us Q I rx ⟨_, _, rfl, k _ _ (out_at (.int _))⟩
  · rename_i d ds
    split at e
    · rename_i hk
      cases e
      rw [Bool.and_eq_true] at hk
      obtain ⟨v, rfl, hv⟩ := rdvs1 hx
      obtain ⟨a, vs, rfl, h1, r1⟩ := hv.lst
      rw [Vals.ref1 rx]
      obtain ⟨its, rv, pl, hz⟩ := I.list (SqL.of h1)
      have hd := (like_all hk.1).2
      have vd := VDs.of I r1 rv hd
      obtain ⟨as, hr⟩ := vds_readsAll vd
      refine min_list_data (x := toPy d) (xs := ds.map toPy) (I.ok.hd hc) pl.isList (by simpa using hr) (like_ne hk.1 hk.2) (by have := toPys_depthAll hd; unfold far at this; rw [List.map_cons] at this; omega) fun i w h' tk bs hw rd hkp => ?_
      rw [minD_toPy] at rd
      obtain ⟨x, g1, g2⟩ := best_rep rv r1 vd hd (minL_mem d ds) (by simpa using hw) rd hkp
      exact ⟨x, H, I.kept hkp, g1, k _ _ (out_at g2)⟩
    · cases e
  · rename_i d ds
    split at e
    · rename_i hk
      cases e
      rw [Bool.and_eq_true] at hk
      obtain ⟨v, rfl, hv⟩ := rdvs1 hx
      obtain ⟨a, vs, rfl, h1, r1⟩ := hv.tup
      rw [Vals.ref1 rx]
      obtain ⟨its, rv, pl, hz⟩ := I.tuple (h1.seq)
      have hd := (like_all hk.1).2
      have vd := VDs.of I r1 rv hd
      obtain ⟨as, hr⟩ := vds_readsAll vd
      refine min_tuple_data (x := toPy d) (xs := ds.map toPy) (I.ok.hd hc) pl (by simpa using hr) (like_ne hk.1 hk.2) (by have := toPys_depthAll hd; unfold far at this; rw [List.map_cons] at this; omega) fun i w h' tk bs hw rd hkp => ?_
      rw [minD_toPy] at rd
      obtain ⟨x, g1, g2⟩ := best_rep rv r1 vd hd (minL_mem d ds) (by simpa using hw) rd hkp
      exact ⟨x, H, I.kept hkp, g1, k _ _ (out_at g2)⟩
    · cases e
  · cases e
theorem cb_max (hc : X.calm = true) (hu : X.A.units + 64 < cLine) : CallR X (.builtin "max") (rnD X.K cMax) := by
  intro pins s σ H xs us Q I rx ⟨W, ds, r, wd, hx, e, k⟩
  unfold cMax at e
  split at e
  · cases e
    obtain ⟨v, u, rfl, hv, hw⟩ := rdvs2 hx
    cases hv.int; cases hw.int
    exact call_max2 hc pins s σ H _ us Q I rx ⟨_, _, rfl, k _ _ (out_at (.int _))⟩
  · rename_i d ds
    split at e
    · rename_i hk
      cases e
      rw [Bool.and_eq_true] at hk
      obtain ⟨v, rfl, hv⟩ := rdvs1 hx
      obtain ⟨a, vs, rfl, h1, r1⟩ := hv.lst
      rw [Vals.ref1 rx]
      obtain ⟨its, rv, pl, hz⟩ := I.list (SqL.of h1)
      have hd := (like_all hk.1).2
      have vd := VDs.of I r1 rv hd
      obtain ⟨as, hr⟩ := vds_readsAll vd
      refine max_list_data (x := toPy d) (xs := ds.map toPy) (I.ok.hd hc) pl.isList (by simpa using hr) (like_ne hk.1 hk.2) (by have := toPys_depthAll hd; unfold far at this; rw [List.map_cons] at this; omega) fun i w h' tk bs hw rd hkp => ?_
      rw [maxD_toPy] at rd
      obtain ⟨x, g1, g2⟩ := best_rep rv r1 vd hd (maxL_mem d ds) (by simpa using hw) rd hkp
      exact ⟨x, H, I.kept hkp, g1, k _ _ (out_at g2)⟩
    · cases e
  · rename_i d ds
    split at e
    · rename_i hk
      cases e
      rw [Bool.and_eq_true] at hk
      obtain ⟨v, rfl, hv⟩ := rdvs1 hx
      obtain ⟨a, vs, rfl, h1, r1⟩ := hv.tup
      rw [Vals.ref1 rx]
      obtain ⟨its, rv, pl, hz⟩ := I.tuple (h1.seq)
      have hd := (like_all hk.1).2
      have vd := VDs.of I r1 rv hd
      obtain ⟨as, hr⟩ := vds_readsAll vd
      refine max_tuple_data (x := toPy d) (xs := ds.map toPy) (I.ok.hd hc) pl (by simpa using hr) (like_ne hk.1 hk.2) (by have := toPys_depthAll hd; unfold far at this; rw [List.map_cons] at this; omega) fun i w h' tk bs hw rd hkp => ?_
      rw [maxD_toPy] at rd
      obtain ⟨x, g1, g2⟩ := best_rep rv r1 vd hd (maxL_mem d ds) (by simpa using hw) rd hkp
      exact ⟨x, H, I.kept hkp, g1, k _ _ (out_at g2)⟩
    · cases e
  · cases e
end
end VL

set_option Elab.async false
set_option linter.all false
set_option maxRecDepth 100000
set_option autoImplicit false
/-! The value layer, part 16: sets on the way, dicts made of pairs, texts, count, swaps, op=. -/
namespace VL
open PySem PySem.Spec L2

/-! ### set(a tuple of ints), its length, sorted -/
/-- without repetitions -/
def nubI : List Int → List Int
  | [] => []
  | x :: xs => if xs.contains x then nubI xs else x :: nubI xs
theorem nubI_mem {k : Int} : ∀ {l : List Int}, k ∈ nubI l ↔ k ∈ l
  | [] => Iff.rfl
  | x :: xs => by
    unfold nubI
    by_cases h : xs.contains x = true
    · rw [if_pos h, nubI_mem, List.mem_cons]
      have : x ∈ xs := by simpa using h
      constructor
      · exact .inr
      · rintro (rfl | q)
        · exact this
        · exact q
    · rw [if_neg h, List.mem_cons, List.mem_cons, nubI_mem]
theorem nubI_nodup : ∀ l : List Int, (nubI l).Nodup
  | [] => List.nodup_nil
  | x :: xs => by
    unfold nubI
    by_cases h : xs.contains x = true
    · rw [if_pos h]; exact nubI_nodup xs
    · rw [if_neg h]
      refine List.nodup_cons.mpr ⟨fun q => h (by simpa using nubI_mem.mp q), nubI_nodup xs⟩
theorem len_of_mem {l l' : List Int} (n : l.Nodup) (n' : l'.Nodup) (h : ∀ k, k ∈ l ↔ k ∈ l') : l.length = l'.length :=
  ((List.perm_ext_iff_of_nodup n n').mpr h).length_eq
section
variable {X : Cx}
/-- set(t), t a tuple of ints -/
def rSetTI (K : PySem.W.Frag) (w : World) : List V → Hp → VK → Prop := fun xs H Q => ∃ (a : Addr) (ns : List Int), xs = [.ref a] ∧ SqT K H a (ns.map V.int) ∧ ns.length + 1 < scanBound ∧
  ∀ p c, H p = none → c = (nubI ns).length → Q (.ref p) (upd H p (SetO w p (fun j => decide (j ∈ ns)) c))
theorem setR_count {w : World} {h : Heap} {a : Addr} {ns : List Int} {c : Nat} (R : SetR w h a (fun j => decide (j ∈ ns)) c) : c = (nubI ns).length := by
  obtain ⟨o, es, ep, t, ho, hex, hd, g, nd, hm, hb, hf, hn, _⟩ := R
  rw [← hn, ← Array.length_toList, ← List.length_map (f := keyOf)]
  refine len_of_mem nd (nubI_nodup ns) fun k => ?_
  rw [nubI_mem, ← hm k, decide_eq_true_eq]
theorem cr_setTI (hc : X.calm = true) : CallR X (.type "set") (rSetTI X.K X.w) := by
  intro pins s σ H xs us Q I r h
  obtain ⟨a, ns, rfl, hq, hb, q⟩ := h
  rw [Vals.ref1 r]
  obtain ⟨its, rv, pl, hz⟩ := I.tuple hq
  refine call_set_tupI ns (I.ok.hd hc) pl (by simpa using rv.ints) hb fun h' tk c R hle hk => ?_
  have hp := I.hok.fresh (Nat.le_refl _)
  exact ⟨.ref _, upd H s.heap.objs.size (SetO X.w s.heap.objs.size (fun j => decide (j ∈ ns)) c), I.laid (t' := tk) hk (Nat.le_refl _) (setO_new R), rfl, q _ c hp (setR_count R)⟩
/-- len(a set) -/
def rLenSetO (w : World) : List V → Hp → VK → Prop := fun xs H Q => ∃ (a : Addr) (S : Int → Bool) (n : Nat), xs = [.ref a] ∧ H a = some (SetO w a S n) ∧ Q (.int n) H
theorem cr_lenSetO : CallR X (.builtin "len") (rLenSetO X.w) := by
  intro pins s σ H xs us Q I r h
  obtain ⟨a, S, n, rfl, ha, q⟩ := h
  rw [Vals.ref1 r]
  obtain ⟨o, es, ep, t, ho, hex, hd, g, nd, hm, hb, hf, hn, _⟩ := setO_get I ha
  refine call_len_set ho hex hd hf (by unfold scanBound at hb; omega) ⟨.int n, H, I.tok _, ⟨_, by rw [hn]⟩, q⟩
def cLenSet : D → Option P
  | .tup ds => match intsOf ds with
    | some ns => if ns.length + 1 < scanBound then some (.val (.int (nubI ns).length)) else none
    | none => none
  | _ => none
theorem reps_map_ints {K : PySem.W.Frag} {H : Hp} {W : AS} : ∀ ns : List Int, Reps K H W (ns.map V.int) (ns.map D.int)
  | [] => .nil
  | n :: ns => .cons (.int n) (reps_map_ints ns)
theorem me_lenSet {a : Expr} {f : EF} {p p2 q pos : Pos} (hc : X.calm = true) (hg : Gl X "len") (hm : X.mg "len" = none) (hg2 : Gl X "set") (hm2 : X.mg "set" = none) (ha : ME X a f)
    (na : starEach [a] X.env = (false, eval a X.env) :: starEach [] X.env := by rfl) (na2 : starEach [(.Call (.Name "set" p2) [a] [] q : Expr)] X.env = (false, eval (.Call (.Name "set" p2) [a] [] q) X.env) :: starEach [] X.env := by rfl) : ME X (.Call (.Name "len" p) [.Call (.Name "set" p2) [a] [] q] [] pos) (m1 cLenSet f) :=
  (pe_callB cr_lenSetO hg hm PySem.boot_len (pa_cons (pe_callTy (cr_setTI hc) hg2 hm2 PyProof.Rows.boot_set (pa_cons ha pa_nil na) (he := na)) pa_nil na2) (he := na2)).weak fun σ H Q ⟨C, Z, m, p, m', S, e, k⟩ => by
    unfold m1 at e
    split at e
    · rename_i p1 n1 e1
      split at e
      · rename_i x ex
        split at e
        · rename_i r er
          cases e
          refine tE_one S e1 fun v H1 Z1 E1 S1 r1 => ?_
          unfold cLenSet at er
          split at er
          · rename_i ds
            split at er
            · rename_i ns en
              split at er
              · rename_i hz
                cases er
                obtain ⟨a, vs, rfl, h1, r2⟩ := (S1.rd r1.rp ex).tup
                obtain ⟨rfl, _⟩ := reps_ints r2 en
                refine ⟨a, ns, rfl, h1.seq, hz, fun p c hp ec => ?_⟩
                refine ⟨p, _, c, rfl, upd_same, ?_⟩
                have := S1.alloc (o := SetO X.w p (fun j => decide (j ∈ ns)) c) hp
                rw [ec]
                exact k _ _ Z1 (E1.trans (.same (same_new hp))) (by rw [← ec]; exact this) (.int _)
              · cases er
            · cases er
          · cases er
        · cases e
      · cases e
    · cases e
def cSortSet : D → Option P
  | .tup ds => match intsOf ds with
    | some ns => if ns.length < 64 then some (.fresh (.lst ((nubI ns).mergeSort (fun a b => decide (a ≤ b)) |>.map D.int))) else none
    | none => none
  | _ => none
theorem asc_unique {l l' : List Int} (a : l.Pairwise (· < ·)) (a' : l'.Pairwise (· < ·)) (h : ∀ k, k ∈ l ↔ k ∈ l') : l = l' := by
  have n : l.Nodup := a.imp fun q => Int.ne_of_lt q
  have n' : l'.Nodup := a'.imp fun q => Int.ne_of_lt q
  refine List.Perm.eq_of_pairwise (le := fun x y => x < y) (fun x y _ _ h1 h2 => by omega) a a' ((List.perm_ext_iff_of_nodup n n').mpr h)
theorem me_sortSet {a : Expr} {f : EF} {p p2 q pos : Pos} (hc : X.calm = true) (hg : Gl X "sorted") (hm : X.mg "sorted" = none) (hg2 : Gl X "set") (hm2 : X.mg "set" = none) (ha : ME X a f)
    (na : starEach [a] X.env = (false, eval a X.env) :: starEach [] X.env := by rfl) (na2 : starEach [(.Call (.Name "set" p2) [a] [] q : Expr)] X.env = (false, eval (.Call (.Name "set" p2) [a] [] q) X.env) :: starEach [] X.env := by rfl) : ME X (.Call (.Name "sorted" p) [.Call (.Name "set" p2) [a] [] q] [] pos) (m1 cSortSet f) :=
  (pe_callB (cr_sortedSet hc) hg hm (by rfl) (pa_cons (pe_callTy (cr_setTI hc) hg2 hm2 PyProof.Rows.boot_set (pa_cons ha pa_nil na) (he := na)) pa_nil na2) (he := na2)).weak fun σ H Q ⟨C, Z, m, p, m', S, e, k⟩ => by
    unfold m1 at e
    split at e
    · rename_i p1 n1 e1
      split at e
      · rename_i x ex
        split at e
        · rename_i r er
          cases e
          refine tE_one S e1 fun v H1 Z1 E1 S1 r1 => ?_
          unfold cSortSet at er
          split at er
          · rename_i ds
            split at er
            · rename_i ns en
              split at er
              · rename_i hz
                cases er
                obtain ⟨a, vs, rfl, h1, r2⟩ := (S1.rd r1.rp ex).tup
                obtain ⟨rfl, _⟩ := reps_ints r2 en
                refine ⟨a, ns, rfl, h1.seq, by unfold scanBound; omega, fun p c hp ec => ?_⟩
                have S2 := S1.alloc (o := SetO X.w p (fun j => decide (j ∈ ns)) c) hp
                have hle : (nubI ns).length ≤ ns.length := (nubI_nodup ns).length_le_of_subset fun k q => nubI_mem.mp q
                refine ⟨p, _, c, rfl, upd_same, by omega, fun ks q asc mem hl hq => ?_⟩
                have ek : ks = (nubI ns).mergeSort fun a b => decide (a ≤ b) := by
                  refine asc_unique asc ?_ fun k => ?_
                  · have s1 : ((nubI ns).mergeSort fun a b => decide (a ≤ b)).Pairwise (fun a b => decide (a ≤ b) = true) := List.pairwise_mergeSort (fun a b c h1 h2 => by simp only [decide_eq_true_eq] at *; omega) (fun a b => by simp only [Bool.or_eq_true, decide_eq_true_eq]; omega) _
                    have s2 : ((nubI ns).mergeSort fun a b => decide (a ≤ b)).Nodup := (List.mergeSort_perm _ _).nodup_iff.mpr (nubI_nodup ns)
                    exact (s1.and s2).imp fun ⟨h1, h2⟩ => by simp only [decide_eq_true_eq] at h1; omega
                  · rw [mem, decide_eq_true_eq, (List.mergeSort_perm _ _).mem_iff, nubI_mem]
                subst ek
                have o := out_lst S2.wdom hq (reps_map_ints (K := X.K) (H := upd H1 p (SetO X.w p (fun j => decide (j ∈ ns)) c)) (W := Z1.W) ((nubI ns).mergeSort fun a b => decide (a ≤ b)))
                obtain ⟨E3, S3, r3⟩ := o.fin S2
                exact k _ _ Z1 ((E1.trans (.same (same_new hp))).trans E3) S3 (r3.back (E1.trans (.same (same_new hp))))
              · cases er
            · cases er
          · cases er
        · cases e
      · cases e
    · cases e
end

/-! ### methods that read: count, get, split, join, startswith -/
section
variable {X : Cx}
def mCount : D → List D → Option P
  | .lst ds, [x] => if dOk x far && dOks ds far then some (.val (.int (ds.countP (fun y => dEq y x) : Nat))) else none
  | _, _ => none
def mCountT : D → List D → Option P
  | .tup ds, [x] => if dOk x far && dOks ds far then some (.val (.int (ds.countP (fun y => dEq y x) : Nat))) else none
  | _, _ => none
def mIndex : D → List D → Option P
  | .lst ds, [x] => if dOk x far && dOks ds far && decide (ds.length ≤ sizeLine) then (match ds.findIdx? (fun y => dEq y x) with
    | some j => some (.val (.int (j : Nat)))
    | none => none) else none
  | _, _ => none
def mIndexT : D → List D → Option P
  | .tup ds, [x] => if dOk x far && dOks ds far then (match ds.findIdx? (fun y => dEq y x) with
    | some j => some (.val (.int (j : Nat)))
    | none => none) else none
  | _, _ => none
theorem vds_hit {h : Heap} {x : D} {us : List Value} {ds : List D} {j : Nat} (r : VDs h us ds) (e : ds.findIdx? (fun y => dEq y x) = some j) : ∃ hj : j < us.toArray.size, hitV h x us.toArray[j] = true ∧ ∀ m (hm : m < us.toArray.size), m < j → hitV h x us.toArray[m] = false := by
  rw [List.findIdx?_eq_some_iff_getElem] at e
  obtain ⟨hj, h1, h2⟩ := e
  have hl := r.length
  have at' : ∀ m (hm : m < us.toArray.size), ∃ hm' : m < ds.length, hitV h x us.toArray[m] = dEq ds[m] x := by
    intro m hm
    have hm1 : m < us.length := by simpa using hm
    obtain ⟨d, e1, e2⟩ := r.get (List.getElem?_eq_getElem hm1)
    obtain ⟨hm', e3⟩ := List.getElem?_eq_some_iff.mp e1
    refine ⟨hm', ?_⟩
    have : us.toArray[m] = us[m] := by simp
    rw [this, hitV_eq e2, e3]
  refine ⟨by simpa [hl] using hj, ?_, fun m hm hmj => ?_⟩
  · obtain ⟨hm', e1⟩ := at' j (by simpa [hl] using hj)
    rw [e1]; exact h1
  · obtain ⟨hm', e1⟩ := at' m hm
    rw [e1]
    have := h2 m hmj
    cases q : dEq ds[m] x with
    | false => rfl
    | true => exact absurd q (by simpa using this)
theorem vds_count {h : Heap} {x : D} : ∀ {us : List Value} {ds : List D}, VDs h us ds → us.countP (hitV h x) = ds.countP fun y => dEq y x
  | _, _, .nil => rfl
  | _, _, .cons r t => by rw [List.countP_cons, List.countP_cons, hitV_eq r, vds_count t]
theorem mt_countD (hu : X.A.units + 64 < cLine) : MtR X "list.count" (rmD X.K mCount) := by
  intro pins s σ H x xs v us Q I rx rs ⟨W, dx, ds, r, wd, hx, hs, e, k⟩
  unfold mCount at e
  split at e
  · rename_i ds y
    split at e
    · rename_i hk
      cases e
      rw [Bool.and_eq_true] at hk
      obtain ⟨w, rfl, hw⟩ := rdvs1 hs
      obtain ⟨a, vs, rfl, h1, r1⟩ := hx.lst
      cases rx
      obtain ⟨u, rfl, ru⟩ := rs.one
      obtain ⟨its, rv, pl, hz⟩ := I.list (SqL.of h1)
      have q1 := VD.ofRd I hw ru hk.1
      have vd := VDs.of I r1 rv hk.2
      obtain ⟨⟨cls, dd, data, sls⟩, n, ho, hcl, hdn, hdt⟩ := pl
      simp only at hcl hdt
      subst hcl hdt
      refine call_meets PySem.F.slot_list_count ⟨_, ho, rfl⟩ PySem.F.entry_list_count (PySem.F.args_list_count_2 _ _) (SeqAt.list_countAt a its.toArray n dd sls u (hitV s.heap y)) ⟨ho, fun w hw => ?_, ⟨.int _, H, I.tok _, ⟨_, rfl⟩, ?_⟩⟩
      · obtain ⟨d, hd, rd⟩ := vd.mem (by simpa using hw)
        rw [hitV_eq rd]
        exact eqAt_D far X.A.in1 (dOks_mem hk.2 hd) hk.1 rd q1 (by rw [units_in1]; unfold far; omega)
      · rw [show its.toArray.toList.countP (hitV s.heap y) = its.countP (hitV s.heap y) by simp, vds_count vd]
        exact k _ _ (out_at (.int _))
    · cases e
  · cases e
theorem mt_countT (hu : X.A.units + 64 < cLine) : MtR X "tuple.count" (rmD X.K mCountT) := by
  intro pins s σ H x xs v us Q I rx rs ⟨W, dx, ds, r, wd, hx, hs, e, k⟩
  unfold mCountT at e
  split at e
  · rename_i ds y
    split at e
    · rename_i hk
      cases e
      rw [Bool.and_eq_true] at hk
      obtain ⟨w, rfl, hw⟩ := rdvs1 hs
      obtain ⟨a, vs, rfl, h1, r1⟩ := hx.tup
      cases rx
      obtain ⟨u, rfl, ru⟩ := rs.one
      obtain ⟨its, rv, pl, hz⟩ := I.tuple h1.seq
      have q1 := VD.ofRd I hw ru hk.1
      have vd := VDs.of I r1 rv hk.2
      obtain ⟨⟨cls, dd, data, sls⟩, ho, hcl, n, hdt⟩ := pl
      simp only at hcl hdt
      subst hcl hdt
      refine call_meets PySem.F.slot_tuple_count ⟨_, ho, rfl⟩ PySem.F.entry_tuple_count (PySem.F.args_tuple_count_2 _ _) (SeqAt.tuple_countAt a its.toArray n dd sls u (hitV s.heap y)) ⟨ho, fun w hw => ?_, ⟨.int _, H, I.tok _, ⟨_, rfl⟩, ?_⟩⟩
      · obtain ⟨d, hd, rd⟩ := vd.mem (by simpa using hw)
        rw [hitV_eq rd]
        exact eqAt_D far X.A.in1 (dOks_mem hk.2 hd) hk.1 rd q1 (by rw [units_in1]; unfold far; omega)
      · rw [show its.toArray.toList.countP (hitV s.heap y) = its.countP (hitV s.heap y) by simp, vds_count vd]
        exact k _ _ (out_at (.int _))
    · cases e
  · cases e
theorem mt_indexT (hu : X.A.units + 64 < cLine) : MtR X "tuple.index" (rmD X.K mIndexT) := by
  intro pins s σ H x xs v us Q I rx rs ⟨W, dx, ds, r, wd, hx, hs, e, k⟩
  unfold mIndexT at e
  split at e
  · rename_i ds y
    split at e
    · rename_i hk
      split at e
      · rename_i j ej
        cases e
        rw [Bool.and_eq_true] at hk
        obtain ⟨w, rfl, hw⟩ := rdvs1 hs
        obtain ⟨a, vs, rfl, h1, r1⟩ := hx.tup
        cases rx
        obtain ⟨u, rfl, ru⟩ := rs.one
        obtain ⟨its, rv, pl, hz⟩ := I.tuple h1.seq
        have q1 := VD.ofRd I hw ru hk.1
        have vd := VDs.of I r1 rv hk.2
        obtain ⟨⟨cls, dd, data, sls⟩, ho, hcl, n, hdt⟩ := pl
        simp only at hcl hdt
        subst hcl hdt
        obtain ⟨hj, g1, g2⟩ := vds_hit vd ej
        refine call_meets PySem.F.slot_tuple_index ⟨_, ho, rfl⟩ PySem.F.entry_tuple_index (PySem.F.args_tuple_index_2 _ _) (TI.tuple_indexAt a its.toArray n dd sls u (hitV s.heap y) j hj g1 g2) ⟨ho, fun w hw => ?_, ⟨.int _, H, I.tok _, ⟨_, rfl⟩, k _ _ (out_at (.int _))⟩⟩
        obtain ⟨d, hd, rd⟩ := vd.mem (by simpa using hw)
        rw [hitV_eq rd]
        exact eqAt_D far X.A.in1 (dOks_mem hk.2 hd) hk.1 rd q1 (by rw [units_in1]; unfold far; omega)
      · cases e
    · cases e
  · cases e
theorem mt_indexD' (hu : X.A.units + 64 < cLine) : MtR X "list.index" (rmD X.K mIndex) := by
  intro pins s σ H x xs v us Q I rx rs ⟨W, dx, ds, r, wd, hx, hs, e, k⟩
  unfold mIndex at e
  split at e
  · rename_i ds y
    split at e
    · rename_i hk
      split at e
      · rename_i j ej
        cases e
        rw [Bool.and_eq_true, Bool.and_eq_true, decide_eq_true_eq] at hk
        obtain ⟨hk, hz0⟩ := hk
        obtain ⟨w, rfl, hw⟩ := rdvs1 hs
        obtain ⟨a, vs, rfl, h1, r1⟩ := hx.lst
        cases rx
        obtain ⟨u, rfl, ru⟩ := rs.one
        obtain ⟨its, rv, pl, hz⟩ := I.list (SqL.of h1)
        have q1 := VD.ofRd I hw ru hk.1
        have vd := VDs.of I r1 rv hk.2
        obtain ⟨⟨cls, dd, data, sls⟩, n, ho, hcl, hdn, hdt⟩ := pl
        simp only at hcl hdt
        subst hcl hdt
        obtain ⟨hj, g1, g2⟩ := vds_hit vd ej
        have hln := line63
        have hl := vd.length
        refine call_meets PySem.F.slot_list_index ⟨_, ho, rfl⟩ PySem.F.entry_list_index (PySem.F.args_list_index_2 _ _) (SeqAt.list_indexAt a its.toArray n dd sls u (hitV s.heap y) j hj (by rw [List.size_toArray] at hj; omega) g1 g2) ⟨ho, fun w hw => ?_, ⟨.int _, H, I.tok _, ⟨_, rfl⟩, k _ _ (out_at (.int _))⟩⟩
        obtain ⟨d, hd, rd⟩ := vd.mem (by simpa using hw)
        rw [hitV_eq rd]
        exact eqAt_D far X.A.in1 (dOks_mem hk.2 hd) hk.1 rd q1 (by rw [units_in1]; unfold far; omega)
      · cases e
    · cases e
  · cases e
def mGet : D → List D → Option P
  | .dct ks ds, [x] => match keyD x with
    | some j => some (.val ((dctAt ks ds j).getD .non))
    | none => none
  | .dct ks ds, [x, y] => match keyD x, y with
    | some j, .int i => some (.val ((dctAt ks ds j).getD (.int i)))
    | some j, .non => some (.val ((dctAt ks ds j).getD .non))
    | some j, .tup [] => match dctAt ks ds j with
      | some d => some (.val d)
      | none => none
    | some j, .str z => some (.val ((dctAt ks ds j).getD (.str z)))
    | _, _ => none
  | _, _ => none
theorem rep_getD {K : PySem.W.Frag} {H : Hp} {W : AS} {ks : List Key} {vs : List V} {ds : List D} {j : Key} {v : V} {d : D} (l : ks.length = vs.length) (rr : Reps K H W vs ds) (r : Rep K H W v d) : Rep K H W ((valV (ks.zip vs) j).getD v) ((dctAt ks ds j).getD d) := by
  have q := dct_val j l rr
  cases c : dctAt ks ds j with
  | none => rw [q.2 c]; exact r
  | some d' => obtain ⟨v', e3, r'⟩ := q.1 d' c; rw [e3]; exact r'
theorem mt_get (hu : X.A.units + 64 < cLine) : MtR X "dict.get" (rmD X.K mGet) := by
  intro pins s σ H x xs v us Q I rx rs ⟨W, dx, ds, r, wd, hx, hs, e, k⟩
  have two : ∀ {ks : List Key} {es : List D} {y z : D} {j : Key} {w : V} , dx = .dct ks es → keyD y = some j → ds = [y, z] → (∀ {u : V}, RdV X.K H W u z → u = w ∧ Rep X.K H W w z) → r = .val ((dctAt ks es j).getD z) → wpAny (model X.prog X.w) X.A (call (.builtin "dict.get") (v :: us)) (EP X pins σ Q) X.xe s := by
    intro ks es y z j w e1 e2 e3 e4 e5
    subst e1 e3 e5
    obtain ⟨a, vs, rfl, h1, l, rr⟩ := hx.dct
    obtain ⟨v1, v2, rfl, g1, g2⟩ := rdvs2 hs
    cases keyD_kV g1 e2
    cases rx
    obtain ⟨u1, u2, rfl, k1, k2⟩ := rs.two
    obtain ⟨e6, rz⟩ := e4 g2
    subst e6
    exact d_get2 (by omega) I (DGet.k h1) k1 k2 fun w' s' I' rw' => ⟨_, H, I', rw', k _ _ (out_at (rep_getD l rr rz))⟩
  unfold mGet at e
  split at e
  · rename_i ks es y
    split at e
    · rename_i j ej
      cases e
      obtain ⟨a, vs, rfl, h1, l, rr⟩ := hx.dct
      obtain ⟨v1, rfl, g1⟩ := rdvs1 hs
      cases keyD_kV g1 ej
      cases rx
      obtain ⟨u1, rfl, k1⟩ := rs.one
      exact d_get1 (by omega) I (DGet.k h1) k1 fun w' s' I' rw' => ⟨_, H, I', rw', k _ _ (out_at (rep_getD l rr .non))⟩
    · cases e
  · rename_i ks es y z
    split at e
    · rename_i j ej
      cases e
      exact two rfl ej rfl (fun q => by cases q.int; exact ⟨rfl, .int _⟩) rfl
    · rename_i j ej
      cases e
      exact two rfl ej rfl (fun q => by cases q.non; exact ⟨rfl, .non⟩) rfl
    · rename_i j ej
      split at e
      · rename_i d ed
        cases e
        obtain ⟨a, vs, rfl, h1, l, rr⟩ := hx.dct
        obtain ⟨v1, v2, rfl, g1, g2⟩ := rdvs2 hs
        cases keyD_kV g1 ej
        cases rx
        obtain ⟨u1, u2, rfl, k1, k2⟩ := rs.two
        obtain ⟨v', e3, r'⟩ := (dct_val j l rr).1 d ed
        exact d_get2 (by omega) I (DGet.k h1) k1 k2 fun w' s' I' rw' => ⟨_, H, I', rw', k _ _ (out_at (by rw [e3]; exact r'))⟩
      · cases e
    · rename_i j ej
      cases e
      exact two rfl ej rfl (fun q => by cases q.str; exact ⟨rfl, .str _⟩) rfl
    · cases e
  · cases e
def strsOf : List D → Option (List Str)
  | [] => some []
  | .str x :: ds => match strsOf ds with
    | some xs => some (x :: xs)
    | none => none
  | _ => none
theorem reps_strs {K : PySem.W.Frag} {H : Hp} {W : AS} : ∀ {vs : List V} {ds : List D} {xs : List Str}, Reps K H W vs ds → strsOf ds = some xs → vs = xs.map V.str ∧ ds = xs.map D.str
  | _, _, xs, .nil, e => by cases e; exact ⟨rfl, rfl⟩
  | _, d :: ds, xs, .cons r t, e => by
    unfold strsOf at e
    split at e
    · rename_i q
      cases q
    · rename_i x ds' q
      cases q
      split at e
      · rename_i ys ey
        cases e
        obtain ⟨h1, h2⟩ := reps_strs t ey
        cases r
        exact ⟨by rw [h1]; rfl, by rw [h2]; rfl⟩
      · cases e
    · cases e
theorem reps_map_strs {K : PySem.W.Frag} {H : Hp} {W : AS} : ∀ ns : List Str, Reps K H W (ns.map V.str) (ns.map D.str)
  | [] => .nil
  | n :: ns => .cons (.str n) (reps_map_strs ns)
def mSplit : D → List D → Option P
  | .str a, [.str b] => if (b.length == 0) = false ∧ a.length + 2 ≤ sizeLine then some (.fresh (.lst ((Txt.split a b).map D.str))) else none
  | _, _ => none
theorem mt_splitD : MtR X "str.split" (rmD X.K mSplit) := by
  intro pins s σ H x xs v us Q I rx rs ⟨W, dx, ds, r, wd, hx, hs, e, k⟩
  unfold mSplit at e
  split at e
  · rename_i a b
    split at e
    · rename_i hz
      cases e
      cases hx.str
      obtain ⟨v1, rfl, g1⟩ := rdvs1 hs
      cases g1.str
      exact mt_split pins s σ H _ _ v us Q I rx rs ⟨a, b, rfl, rfl, hz.1, hz.2, fun p hp => k _ _ (out_lst wd hp (reps_map_strs _))⟩
    · cases e
  · cases e
def mJoin : D → List D → Option P
  | .str a, [.lst ds] => match strsOf ds with
    | some ys => if (ys.map (·.length)).sum + ys.length * a.length ≤ 16777216 then some (.val (.str (Txt.join a ys))) else none
    | none => none
  | .str a, [.tup ds] => match strsOf ds with
    | some ys => if (ys.map (·.length)).sum + ys.length * a.length ≤ 16777216 then some (.val (.str (Txt.join a ys))) else none
    | none => none
  | _, _ => none
theorem mt_joinD : MtR X "str.join" (rmD X.K mJoin) := by
  intro pins s σ H x xs v us Q I rx rs ⟨W, dx, ds, r, wd, hx, hs, e, k⟩
  unfold mJoin at e
  split at e
  · rename_i a ds
    split at e
    · rename_i ys ey
      split at e
      · rename_i hz
        cases e
        cases hx.str
        obtain ⟨v1, rfl, g1⟩ := rdvs1 hs
        obtain ⟨p, vs, rfl, h1, r1⟩ := g1.lst
        obtain ⟨rfl, _⟩ := reps_strs r1 ey
        exact mt_join pins s σ H _ _ v us Q I rx rs ⟨a, p, ys, rfl, rfl, .inl (SqL.of h1), hz, k _ _ (out_at (.str _))⟩
      · cases e
    · cases e
  · rename_i a ds
    split at e
    · rename_i ys ey
      split at e
      · rename_i hz
        cases e
        cases hx.str
        obtain ⟨v1, rfl, g1⟩ := rdvs1 hs
        obtain ⟨p, vs, rfl, h1, r1⟩ := g1.tup
        obtain ⟨rfl, _⟩ := reps_strs r1 ey
        exact mt_join pins s σ H _ _ v us Q I rx rs ⟨a, p, ys, rfl, rfl, .inr (h1.seq), hz, k _ _ (out_at (.str _))⟩
      · cases e
    · cases e
  · cases e
def mStarts : D → List D → Option P
  | .str a, [.str b] => some (.val (.bl (Txt.startswith a b)))
  | _, _ => none
theorem mt_startsD : MtR X "str.startswith" (rmD X.K mStarts) := by
  intro pins s σ H x xs v us Q I rx rs ⟨W, dx, ds, r, wd, hx, hs, e, k⟩
  unfold mStarts at e
  split at e
  · cases e
    cases hx.str
    obtain ⟨v1, rfl, g1⟩ := rdvs1 hs
    cases g1.str
    exact mt_startswith pins s σ H _ _ v us Q I rx rs ⟨_, _, rfl, rfl, k _ _ (out_at (.bl _))⟩
  · cases e
end
end VL

set_option Elab.async false
set_option linter.all false
set_option maxRecDepth 100000
set_option autoImplicit false
/-! The value layer, part 17: dicts made of pairs, dict comprehensions, swaps, op=. -/
namespace VL
open PySem PySem.Spec L2

/-! ### dicts made of pairs -/
def pairsOf : List D → Option (List (Key × D))
  | [] => some []
  | .tup [k, v] :: ds => match keyD k, pairsOf ds with
    | some j, some ps => some ((j, v) :: ps)
    | _, _ => none
  | _ => none
def mergeD : List Key → List D → List (Key × D) → List Key × List D
  | ks, ds, [] => (ks, ds)
  | ks, ds, p :: ps => mergeD (putD ks ds p.1 p.2).1 (putD ks ds p.1 p.2).2 ps
section
variable {K : PySem.W.Frag} {H : Hp} {W : AS}
theorem mergeK_zip : ∀ {ps : List (Key × D)} {qs : List (Key × V)} {ks : List Key} {vs : List V} {ds : List D}, Paired (fun (q : Key × V) (p : Key × D) => q.1 = p.1 ∧ Rep K H W q.2 p.2) qs ps → ks.length = vs.length → Reps K H W vs ds →
    ∃ us, mergeK (ks.zip vs) qs = (mergeD ks ds ps).1.zip us ∧ (mergeD ks ds ps).1.length = us.length ∧ Reps K H W us (mergeD ks ds ps).2
  | _, _, ks, vs, ds, .nil, l, r => ⟨vs, rfl, l, r⟩
  | _, _, ks, vs, ds, .cons (a := q) (b := p) h t, l, r => by
    obtain ⟨us, h1, h2, h3⟩ := putK_zip (k := p.1) h.2 l r
    obtain ⟨ws, g1, g2, g3⟩ := mergeK_zip t h2 h3
    refine ⟨ws, ?_, g2, g3⟩
    show mergeK (putK (ks.zip vs) q.1 q.2) _ = _
    rw [h.1, h1]
    exact g1
/-- the pairs as they stand -/
theorem reps_pairs : ∀ {vs : List V} {ds : List D} {ps : List (Key × D)}, Reps K H W vs ds → pairsOf ds = some ps →
    ∃ (as : List Addr) (qs : List (Key × V)), vs = as.map V.ref ∧ Paired (fun p kv => SqT K H p [kV kv.1, kv.2]) as qs ∧ Paired (fun (q : Key × V) (p : Key × D) => q.1 = p.1 ∧ Rep K H W q.2 p.2) qs ps
  | _, _, _, .nil, e => by cases e; exact ⟨[], [], rfl, .nil, .nil⟩
  | _, d :: ds, ps, .cons r t, e => by
    unfold pairsOf at e
    split at e
    · rename_i q; cases q
    · rename_i k v ds' q
      cases q
      split at e
      · rename_i j ps' ej ep
        cases e
        obtain ⟨as, qs, h1, h2, h3⟩ := reps_pairs t ep
        cases r with
        | @tup a us _ n g rr =>
          cases rr with
          | cons r1 rr => cases rr with
            | cons r2 rr =>
              cases rr
              have := keyD_kV (.inl r1) ej
              subst this
              exact ⟨a :: as, (j, _) :: qs, by rw [h1]; rfl, .cons g.seq h2, .cons ⟨rfl, r2⟩ h3⟩
      · cases e
    · cases e
theorem out_dct {p : Addr} {us : List V} {ks : List Key} {ds : List D} (wd : ∀ b, W b → H b ≠ none) (h : H p = none) (l : ks.length = us.length) (r : Reps K H W us ds) : Out K H W (.ref p) (upd H p (.dK (ks.zip us))) (.fresh (.dct ks ds)) :=
  ⟨same_new h, p, rfl, h, us, upd_same, l, r.ks (ks_new h)⟩
end
def cDict : List D → Option P
  | [.lst ds] => match pairsOf ds with
    | some ps => some (.fresh (.dct (mergeD [] [] ps).1 (mergeD [] [] ps).2))
    | none => none
  | [.tup ds] => match pairsOf ds with
    | some ps => some (.fresh (.dct (mergeD [] [] ps).1 (mergeD [] [] ps).2))
    | none => none
  | _ => none
section
variable {X : Cx}
theorem pairs_of2 {pins : List (Addr × Obj)} {σ : L2.St} {H : Hp} {s : Shared} (I : L2.Inv X pins σ H s) : ∀ {ps : List Addr} {kvs : List (Key × V)}, Paired (fun p kv => SqT X.K H p [kV kv.1, kv.2]) ps kvs →
    ∃ (prs : List (Key × Value)) (ws : List (Value × Value)), KV kvs prs ∧ prs.length = ps.length ∧ ws.length = ps.length ∧ ∀ (j : Nat) (w : Value × Value), ws[j]? = some w → ∃ (b : Addr) (k : Key), ps[j]? = some b ∧ PyProof.Rows.IsTup s.heap b #[w.1, w.2] ∧ prs[j]? = some (k, w.2) ∧ keyIs k w.1 = true
  | _, _, .nil => ⟨[], [], .nil, rfl, rfl, fun j q e => by simp at e⟩
  | _, _, .cons (a := p) (b := kv) h t => by
    obtain ⟨prs, ws, r, hl, hw, hp⟩ := pairs_of2 I t
    obtain ⟨its, rv, ht, _⟩ := I.tuple h
    obtain ⟨u, y, ei, ru, ry⟩ := vals2 rv
    subst ei
    refine ⟨(kv.1, y) :: prs, (u, y) :: ws, .cons ⟨rfl, ry⟩ r, by rw [List.length_cons, List.length_cons, hl], by rw [List.length_cons, List.length_cons, hw], fun j w e => ?_⟩
    cases j with
    | zero =>
      have e' : (u, y) = w := Option.some.inj e
      subst e'
      exact ⟨p, kv.1, rfl, ht, rfl, kV_is (P := X.prog) (w := X.w) ru⟩
    | succ j =>
      obtain ⟨b, k, e1, e2, e3, e4⟩ := hp j w (by simpa using e)
      exact ⟨b, k, by simpa using e1, e2, by simpa using e3, e4⟩
/-- dict(t) of a tuple of pairs -/
theorem call_dictT (hcalm : X.calm = true) : CallR X (.type "dict") (fun xs H Q => ∃ (a : Addr) (ps : List Addr) (kvs : List (Key × V)), xs = [.ref a] ∧ TupAt H a (ps.map V.ref) ∧ Paired (fun p kv => SqT X.K H p [kV kv.1, kv.2]) ps kvs ∧
    ∀ p, H p = none → Q (.ref p) (upd H p (.dK (mergeK [] kvs)))) := by
  intro pins s σ H xs us Q I r q
  obtain ⟨a, ps, kvs, rfl, hq, hp, q⟩ := q
  rw [Vals.ref1 r]
  obtain ⟨its, rv, pl, hz⟩ := I.tuple (show SqT X.K H a _ from hq.seq)
  have ei := refs_at rv
  subst ei
  rw [List.length_map] at hz
  obtain ⟨prs, ws, rel, hl, hw, hpr⟩ := pairs_of2 I hp
  obtain ⟨o, h, hd⟩ := hq
  obtain ⟨h1, h2⟩ := (show ObjOk X.prog X.w H s.heap a (.frz o (.tup (ps.map V.ref))) from I.hok a _ h)
  obtain ⟨o', ho, hc, n, hdat⟩ := pl
  rw [h1] at ho
  cases ho
  have Pa := PairArg.tuple (prog := X.prog) (w := X.w) a (ps.map Value.ref).toArray (fun j => (ps[j]?).getD a) ws
  refine PySem.call_dict_pairs (knd := mixKind X.prog X.w) (kvs := prs) Pa (I.ok.hd hcalm) ⟨⟨o, n, h1, hc, hd, hdat⟩, by simp [hw], fun j k v e => ?_⟩ ⟨by rw [hl, hw], fun i key v e => ?_⟩ (by rw [hw]; exact hz) fun h' tk hd' k => ?_
  · obtain ⟨b, k', e1, e2, e3, e4⟩ := hpr j (k, v) e
    refine ⟨by simp [e1], .inl ?_⟩
    simp only [e1, Option.getD_some]
    exact e2
  · obtain ⟨b, k', e1, e2, e3, e4⟩ := hpr i (key, v) e
    exact ⟨k', e3, e4⟩
  · have hm : (s.heap.objs.size == sysModules) = false := beq_eq_false_iff_ne.mpr (Nat.ne_of_gt I.big)
    have hlen : (mergeK [] kvs).length ≤ sizeLine := by
      refine Nat.le_trans (length_mergeK kvs []) ?_
      rw [List.length_nil, Nat.zero_add, rel.length, hl]
      exact hz
    exact ⟨.ref s.heap.objs.size, upd H s.heap.objs.size (.dK (mergeK [] kvs)), I.laid (t' := tk) (fun b o e => k b o (by simp) e) (Nat.le_refl _) (show ObjOk X.prog X.w _ _ _ (.dK (mergeK [] kvs)) from ⟨hlen, hm, merged [] prs, KV.merge rel .nil, hd'⟩), rfl, q _ (I.hok.fresh (Nat.le_refl _))⟩
theorem cb_dict (hc : X.calm = true) : CallR X (.type "dict") (rnD X.K cDict) := by
  intro pins s σ H xs us Q I rx ⟨W, ds, r, wd, hx, e, k⟩
  unfold cDict at e
  split at e
  · split at e
    · rename_i ps ep
      cases e
      obtain ⟨v, rfl, hv⟩ := rdvs1 hx
      obtain ⟨a, vs, rfl, h1, r1⟩ := hv.lst
      obtain ⟨as, qs, rfl, h2, h3⟩ := reps_pairs r1 ep
      obtain ⟨us', g1, g2, g3⟩ := mergeK_zip (ks := []) (vs := []) (ds := []) h3 rfl .nil
      refine call_dictP hc pins s σ H _ us Q I rx ⟨a, as, qs, rfl, SqL.of h1, h2, fun p hp => k _ _ ?_⟩
      rw [show mergeK [] qs = mergeK (([] : List Key).zip ([] : List V)) qs from rfl, g1]
      exact out_dct wd hp g2 g3
    · cases e
  · split at e
    · rename_i ps ep
      cases e
      obtain ⟨v, rfl, hv⟩ := rdvs1 hx
      obtain ⟨a, vs, rfl, h1, r1⟩ := hv.tup
      obtain ⟨as, qs, rfl, h2, h3⟩ := reps_pairs r1 ep
      obtain ⟨us', g1, g2, g3⟩ := mergeK_zip (ks := []) (vs := []) (ds := []) h3 rfl .nil
      refine call_dictT hc pins s σ H _ us Q I rx ⟨a, as, qs, rfl, h1, h2, fun p hp => k _ _ ?_⟩
      rw [show mergeK [] qs = mergeK (([] : List Key).zip ([] : List V)) qs from rfl, g1]
      exact out_dct wd hp g2 g3
    · cases e
  · cases e

/-! ### {} and {k: v} -/
def mDct0 : EF := fun m => some (.fresh (.dct [] []), m)
theorem me_dct0 {pos : Pos} : ME X (.Dict [] [] pos) mDct0 := pe_dnewK.weak fun σ H Q ⟨C, Z, m, p, m', S, e, k⟩ => by
  cases e
  intro q hq
  obtain ⟨E3, S3, r3⟩ := (out_dct (us := []) (ks := []) (ds := []) S.wdom hq rfl .nil).fin S
  exact k _ _ Z E3 S3 r3
/-- {key: value}, the value without lists -/
def mDct1 (fk fv : EF) : EF := fun m => match fk m with
  | some (p, m1) => match fv m1 with
    | some (q, m2) => match rd p m2, rd q m2 with
      | some dk, some dv => match keyD dk with
        | some j => match force q m2 with
          | some (d', m3) => some (.fresh (.dct [j] [d']), m3)
          | none => none
        | none => none
      | _, _ => none
    | none => none
  | none => none
theorem me_dct1 {ek ev : Expr} {fk fv : EF} {pos : Pos} (hk : ME X ek fk) (hv : ME X ev fv) : ME X (.Dict [some ek] [ev] pos) (mDct1 fk fv) :=
  (pe_disp (pps_cons hk hv pps_nil) rfl rfl (by simp) (by simp)).weak fun σ H Q ⟨C, Z, m, p, m', S, e, k⟩ => by
    unfold mDct1 at e
    split at e
    · rename_i p1 m1 e1
      split at e
      · rename_i q1 m2 e2
        split at e
        · rename_i dk dv ek' ev'
          split at e
          · rename_i j ej
            split at e
            · rename_i d' m3 e3
              cases e
              intro a ha
              have Sb := S.begin (o := HO.dK []) ha
              have na : a ∉ C.res := S.resNew ha
              show tE X.K fk σ _ _
              refine ⟨C.rs a, _, m, p1, m1, Sb, e1, fun x H1 Z1 E1 S1 r1 => ?_⟩
              show tE X.K fv σ _ _
              refine ⟨C.rs a, Z1, m1, q1, m2, S1, e2, fun y H2 Z2 E2 S2 r2 => ?_⟩
              show (_ : Prop)
              have hr : a ∈ (C.rs a).res := List.mem_cons_self
              have nm := (Sb.res a hr).2.1
              have hD : H2 a = some (.dK []) := (E1.trans E2).h a _ nm upd_same
              obtain ⟨Z3, E3, S3, r3⟩ := S2.force r2 e3
              cases keyD_kV (S2.rd (r1.rp.ks (S1.ks E2)) ek') ej
              refine ⟨hD, [(j, y)], rfl, by simp, ?_⟩
              have S4 := S3.resWrite (o := HO.dK [(j, y)]) hr
              obtain ⟨Sa, Sb'⟩ := S4.finish na
              have w3 := (S3.res a hr).1
              have ev0 : Ev Z H ⟨Z.M, fun b => b = a ∨ Z.W b⟩ (upd H a (.dK [])) := ⟨fun b x n q => same_new ha b x q, fun b z => .inl z, fun b z => z.elim (fun q => .inr (by rw [q]; exact ha)) .inl, fun b z q => by
                by_cases hb : b = a
                · rw [hb, upd_same] at q; cases q
                · rw [upd_ne hb] at q; exact z q⟩
              have E := ev_at (o := HO.dK [(j, y)]) (((ev0.trans E1).trans E2).trans E3) ha
              refine k (.ref a) _ ⟨Z3.M, fun b => Z3.W b ∧ b ≠ a⟩ ⟨E.h, E.m, fun b z => E.w b z.1, E.d⟩ Sa ⟨a, rfl, fun z => z.2 rfl, ha, S.new0 ha, Sb', [y], ?_, rfl, .cons (r3.ks ?_) .nil⟩
              · rw [upd_same]; rfl
              · refine ⟨fun b o nb q => by rw [upd_ne (fun z => nb (by rw [z]; exact w3))]; exact q, fun b z => z.elim (fun q => .inl (by rw [q]; exact w3)) fun q => .inl q.1⟩
            · cases e
          · cases e
        · cases e
      · cases e
    · cases e
end

/-! ### {k: v for tg in iter if ..} -/
def dcL (vs : List Nat) (tg : GF) (tt : TF) (ek ev : EF) : List D → MS → List Key → List D → Option (List Key × List D × MS)
  | [], m, ks, acc => some (ks, acc, m)
  | d :: ds, m, ks, acc => match tg d m with
    | some m1 => match tt m1 with
      | some (true, m2) => match ek m2 with
        | some (p, m3) => match ev m3 with
          | some (q, m4) => match rd p m4 with
            | some dk => match keyD dk, force q m4 with
              | some j, some (d', m5) => if okWipe m5 vs && decide (ks.length < sizeLine) then dcL vs tg tt ek ev ds (wipeM m5 vs) (putD ks acc j d').1 (putD ks acc j d').2 else none
              | _, _ => none
            | none => none
          | none => none
        | none => none
      | some (false, m2) => if okWipe m2 vs then dcL vs tg tt ek ev ds (wipeM m2 vs) ks acc else none
      | none => none
    | none => none
def mDc (vs : List Nat) (it : IF) (tg : GF) (tt : TF) (ek ev : EF) : EF := fun m => match it m with
  | some (ds, m1, bk) => if okWipe m1 vs then (match dcL vs tg tt ek ev ds (wipeM m1 vs) [] [] with
    | some (ks, acc, m2) => match unlockM (restM m1 m2 vs) bk with
      | some m3 => some (.fresh (.dct ks acc), m3)
      | none => none
    | none => none) else none
  | none => none
section
variable {X : Cx} {kx vx tg iter : Expr} {ifs : List Expr} {scope : Scope} {own : List (Str × Nat)} {pos : Pos} {fit : IF} {ts : List Nat} {gf : GF} {tt : TF} {ek ev : EF}
theorem tE_dc {σ : L2.St} {H : Hp} {Q : VK} {vs : List Nat} (hv : ∀ i ∈ ts, i ∈ vs) (h : tE X.K (mDc vs fit gf tt ek ev) σ H Q) : tDc (tI X.K fit) (tG X.K ts gf) (tT X.K tt) (tE X.K ek) (tE X.K ev) vs σ H Q := by
  obtain ⟨C, Z, m, p, m', S, e, k⟩ := h
  unfold mDc at e
  split at e
  · rename_i ds m1 bk e1
    split at e
    · rename_i ok1
      split at e
      · rename_i ksF accF mF e2
        split at e
        · rename_i m3 e3
          cases e
          refine ⟨C, Z, m, ds, m1, bk, S, e1, fun J H1 Z1 E1 S1 ok bko D0 hD => ?_⟩
          have na : D0 ∉ C.res := S1.resNew hD
          have bko' : BkOk (C.rs D0) Z H m1 σ bk := bko
          have Sb : SR X.K ((C.rs D0).lk σ bk) ⟨Z1.M, fun b => b = D0 ∨ Z1.W b⟩ m1 σ (upd H1 D0 (.dK [])) := (S1.begin hD).lkIn bko'
          have Sw := Sb.wipeS ok1
          have ev0 : Ev Z1 H1 ⟨Z1.M, fun b => b = D0 ∨ Z1.W b⟩ (upd H1 D0 (.dK [])) := ⟨fun b x n q => same_new hD b x q, fun b z => .inl z, fun b z => z.elim (fun q => .inr (by rw [q]; exact hD)) .inl, fun b z q => by
            by_cases hb : b = D0
            · rw [hb, upd_same] at q; cases q
            · rw [upd_ne hb] at q; exact z q⟩
          have hres : D0 ∈ ((C.rs D0).lk σ bk).res := by rw [lk_res]; exact List.mem_cons_self
          refine ⟨fun i mm H2 => mm = ds.length - i ∧ i ≤ ds.length ∧ ∃ Z2 n ks acc av, Ev Z1 H1 Z2 H2 ∧ SR X.K ((C.rs D0).lk σ bk) Z2 n (wipe σ vs) H2 ∧ H2 D0 = some (.dK (ks.zip av)) ∧ ks.length = av.length ∧ Reps X.K H2 Z2.W av acc ∧ dcL vs gf tt ek ev (ds.drop i) n ks acc = some (ksF, accF, mF), ⟨_, rfl, Nat.zero_le _, _, _, [], [], [], ev0, Sw, upd_same, rfl, .nil, e2⟩, ?_⟩
          rintro i mm H2 ⟨rfl, hi, Z2, n, ks, acc, av, E2, S2, hD2, hl2, racc, eL⟩
          have okk := ok H2 Z2 E2 S2.wdom i
          by_cases hlt : i < ds.length
          · obtain ⟨go, yl⟩ := okk.1 ds[i] (List.getElem?_eq_getElem hlt)
            rw [List.drop_eq_getElem_cons hlt] at eL
            unfold dcL at eL
            split at eL
            · rename_i n1 en1
              refine .inr ⟨go, fun H6 => ∃ Z6 n6 ks6 acc6 av6, Ev Z1 H1 Z6 H6 ∧ SR X.K ((C.rs D0).lk σ bk) Z6 n6 (wipe σ vs) H6 ∧ H6 D0 = some (.dK (ks6.zip av6)) ∧ ks6.length = av6.length ∧ Reps X.K H6 Z6.W av6 acc6 ∧ dcL vs gf tt ek ev (ds.drop (i + 1)) n6 ks6 acc6 = some (ksF, accF, mF), fun H6 ⟨Z6, n6, ks6, acc6, av6, w1, w2, w3, w3', w4, w5⟩ => ⟨_, by omega, rfl, hlt, Z6, n6, ks6, acc6, av6, w1, w2, w3, w3', w4, w5⟩, fun x H3 y => ?_⟩
              obtain ⟨rfl, rep⟩ := yl x H3 y
              refine ⟨_, Z2, n, ds[i], n1, S2, rep, en1, fun σ3 H4 Z4 E4 S4 w4 => ?_⟩
              have wv : wipe σ3 vs = wipe σ vs := (w4 vs hv).trans (wipe_idem σ vs)
              refine ⟨wv, ?_⟩
              split at eL
              · rename_i n2 en2
                refine ⟨_, Z4, n1, true, n2, S4, en2, fun H5 Z5 E5 S5 => ?_⟩
                split at eL
                · rename_i p n3 en3
                  split at eL
                  · rename_i q n4 en4
                    split at eL
                    · rename_i dk edk
                      split at eL
                      · rename_i j d' n5 ej en5
                        split at eL
                        · rename_i g
                          rw [Bool.and_eq_true, decide_eq_true_eq] at g
                          refine iteT (tE_two S5 en3 en4 fun kv v H6 Z6 E6 S6 rk r6 => ?_)
                          obtain ⟨Z7, E7, S7, r7⟩ := S6.force r6 en5
                          cases keyD_kV (S6.rd rk edk) ej
                          have E27 := ((E4.trans E5).trans E6).trans E7
                          have nm := (S2.res D0 hres).2.1
                          have hD6 : H6 D0 = some (.dK (ks.zip av)) := E27.h D0 _ nm hD2
                          have w7 := (S7.res D0 hres).1
                          have ks7 : Ks H6 Z7.W (upd H6 D0 (.dK (putK (ks.zip av) j v))) Z7.W := ⟨fun b o nb q => by rw [upd_ne (fun z => nb (by rw [z]; exact w7))]; exact q, fun _ z => .inl z⟩
                          obtain ⟨us, g1, g2, g3⟩ := putK_zip (k := j) r7 hl2 (racc.ks (S2.ks E27))
                          refine ⟨ks.zip av, j, rfl, hD6, by rw [List.length_zip, ← hl2]; omega, Z7, wipeM n5 vs, (putD ks acc j d').1, (putD ks acc j d').2, us, ev_at (E2.trans E27) hD, ?_, ?_, g2, g3.ks ks7, eL⟩
                          · rw [← wv]
                            exact (S7.resWrite hres).wipeS g.1
                          · rw [upd_same, g1]
                        · cases eL
                      · cases eL
                    · cases eL
                  · cases eL
                · cases eL
              · rename_i n2 en2
                split at eL
                · rename_i g
                  refine ⟨_, Z4, n1, false, n2, S4, en2, fun H5 Z5 E5 S5 => iteF ?_⟩
                  have E25 := E4.trans E5
                  have nm := (S2.res D0 hres).2.1
                  refine ⟨Z5, wipeM n2 vs, ks, acc, av, E2.trans E25, ?_, E25.h D0 _ nm hD2, hl2, racc.ks (S2.ks E25), eL⟩
                  rw [← wv]
                  exact S5.wipeS g
                · cases eL
              · cases eL
            · cases eL
          · have he : i = ds.length := by omega
            subst he
            rw [List.drop_length] at eL
            cases eL
            refine .inl ⟨okk.2 (Nat.le_refl _), ?_⟩
            have Sr := S1.restore E2 S2 ok1
            obtain ⟨Z3, E3, S3, w3⟩ := Sr.lkEnd bko' (E1.trans E2) e3
            obtain ⟨Sa, Sb'⟩ := S3.finish na
            have h0 : H D0 = none := by
              cases q : H D0 with
              | none => rfl
              | some o => exact absurd hD (E1.d D0 (by rw [q]; simp))
            refine k (.ref D0) H2 ⟨Z3.M, fun b => Z3.W b ∧ b ≠ D0⟩ ⟨E3.h, E3.m, fun b z => E3.w b z.1, E3.d⟩ Sa ⟨D0, rfl, fun z => z.2 rfl, h0, S1.new0 hD, Sb', av, hD2, hl2, racc.ks (.sub fun b z => ?_)⟩
            rw [← w3]
            rcases z with z | z
            · rw [z, w3]; exact (S2.res D0 hres).1
            · exact z.1
        · cases e
      · cases e
    · cases e
  · cases e
theorem me_dc (hc : X.calm = true) (hN : X.N.Nodup) (hi : MI X tg iter fit) (ok : BlkOk X.N X.env.scope scope own) (hv : ∀ i ∈ ts, i ∈ own.map (·.2))
    (hg : ∀ (s : Shared) (H : Hp) (C : Addr) (cl : List (Str × Addr)) (fp : List Addr), MG (X.blk s H scope (compEnvC scope cl C X.env) fp) tg ts gf) (ht : ∀ (s : Shared) (H : Hp) (C : Addr) (cl : List (Str × Addr)) (fp : List Addr), MTs (X.blk s H scope (compEnvC scope cl C X.env) fp) ifs tt)
    (hk : ∀ (s : Shared) (H : Hp) (C : Addr) (cl : List (Str × Addr)) (fp : List Addr), ME (X.blk s H scope (compEnvC scope cl C X.env) fp) kx ek)
    (he : ∀ (s : Shared) (H : Hp) (C : Addr) (cl : List (Str × Addr)) (fp : List Addr), ME (X.blk s H scope (compEnvC scope cl C X.env) fp) vx ev) (hs : ∀ x, foldedSetIterable iter X.env x = pure x := by intro _; rfl) :
    ME X (.DictComp kx vx [⟨tg, iter, ifs, 0⟩] scope pos) (mDc (own.map (·.2)) fit gf tt ek ev) := (pe_dc hc hN hi ok hg ht hk he hs).weak fun σ H Q h => tE_dc hv h

/-! ### a, b = x, y by swapped stores -/
def sPar (i j : Nat) (fs : AF) : SF := fun m => match fs m with
  | some (ps, m1) => match forces ps m1 with
    | some ([d, d'], m2) => if mayPut m2 i && mayPut (m2.set i (some (.shr, d))) j then some (.nx, (m2.set i (some (.shr, d))).set j (some (.shr, d'))) else none
    | _ => none
  | none => none
theorem ms_par {i j : Nat} {x y : Str} {a b : Expr} {fs : AF} {px py pt : Pos} {kt k2 pt2} (hc : X.calm = true) (hN : X.N.Nodup) (hi : X.N[i]? = some x) (hj : X.N[j]? = some y) (hij : i ≠ j)
    (hx : X.env.scope.names.lookup x = some .local) (hy : X.env.scope.names.lookup y = some .local) (ha : MA X [a, b] fs)
    (hw : swappedStores [.Tuple [.Name x px, .Name y py] kt pt] (.Tuple [a, b] k2 pt2) X.env = pure (some [x, y]))
    (hs : swapsWithSole [.Tuple [.Name x px, .Name y py] kt pt] (.Tuple [a, b] k2 pt2) pos.line X.env = pure false := by rfl) :
    MSt X (.Assign [.Tuple [.Name x px, .Name y py] kt pt] (.Tuple [a, b] k2 pt2) pos) (sPar i j fs) := (ps_par hc hN hi hj hij hx hy ha hw hs).weak fun D σ H ⟨C, Z, m, fl, m', S, e, k⟩ => by
  unfold sPar at e
  split at e
  · rename_i ps m1 e1
    split at e
    · rename_i d d' m2 e2
      split at e
      · rename_i g
        rw [Bool.and_eq_true] at g
        cases e
        refine ⟨C, Z, m, ps, m1, S, e1, fun vs H1 Z1 E1 S1 r1 => ?_⟩
        obtain ⟨Z2, E2, S2, r2⟩ := S1.forces r1 e2
        cases r2 with
        | cons q1 t => cases t with
          | cons q2 t =>
            cases t
            exact ⟨_, _, rfl, k _ H1 Z2 (E1.trans E2) ((S2.putShr g.1 q1).putShr g.2 q2)⟩
      · cases e
    · cases e
  · cases e

/-! ### name op= e -/
def sAug (i : Nat) (own : Bool) (g : D → D → Option P) (f : EF) : SF := fun m => match sl m i with
  | none => none
  | some _ => match f m with
    | some (p, m1) => match sl m1 i, rd p m1 with
      | some (_, x), some y => match g x y with
        | some r => match putIn i own r m1 with
          | some m2 => some (.nx, m2)
          | none => none
        | none => none
      | _, _ => none
    | none => none
theorem ms_aug {i : Nat} {x : Str} {e : Expr} {f : EF} {op : Operator} {g : D → D → Option P} {own : Bool} {pos' : Pos} (hN : X.N.Nodup) (hi : X.N[i]? = some x) (hx : Loc X.env.scope x) (he : ME X e f) (ho : OpR X (inplaceOp op) (r2D X.K g)) (hf : X.fn x = true ∨ X.env.scope.names.lookup x = some .local := by first | exact .inl rfl | exact .inr rfl | assumption) :
    MSt X (.AugAssign (.Name x pos') op e pos) (sAug i own g f) := (ps_aug hN hi hx he ho hf).weak fun D σ H ⟨C, Z, m, fl, m', S, e, k⟩ => by
  unfold sAug at e
  split at e
  · cases e
  · rename_i x0 ex0
    obtain ⟨t0, d0⟩ := x0
    split at e
    · rename_i p m1 e1
      split at e
      · rename_i t1 dx dy e2 e3
        split at e
        · rename_i r er
          split at e
          · rename_i m2 e4
            cases e
            obtain ⟨v, h1, _⟩ := S.slot (sl_get ex0)
            refine ⟨v, h1, tE_one S e1 fun y H1 Z1 E1 S1 r1 => ?_⟩
            have rx : RdV X.K H1 Z1.W v dx := S1.rd (p := .bor i) h1 (by show (match sl m1 i with | some (_, d) => some d | none => none) = _; rw [e2])
            refine ⟨Z1.W, dx, dy, r, S1.wdom, rx, S1.rd r1.rp e3, er, fun z H2 o => ?_⟩
            obtain ⟨E2, S2, r2⟩ := o.fin S1
            obtain ⟨Z3, E3, S3⟩ := put_ok E2 S2 r2 e4
            exact k _ H2 Z3 (E1.trans E3) S3
          · cases e
        · cases e
      · cases e
    · cases e
/-- ints, texts -/
@[simp] def dAddI : D → D → Option P
  | .int i, .int j => some (.val (.int (i + j)))
  | .str a, .str b => if a.length + b.length ≤ sizeLine then some (.val (.str (a ++ b))) else none
  | _, _ => none
theorem oi_add : OpR X (inplaceOp .Add) (r2D X.K dAddI) := by
  intro pins s σ H x y v u Q I rx ry ⟨W, dx, dy, r, wd, hx, hy, e, k⟩
  unfold dAddI at e
  split at e
  · cases e
    cases hx.int; cases hy.int
    exact iop_add pins s σ H _ _ v u Q I rx ry ⟨_, _, rfl, rfl, k _ _ (out_at (.int _))⟩
  · split at e
    · rename_i hz
      cases e
      cases hx.str; cases hy.str
      exact iop_add_str pins s σ H _ _ v u Q I rx ry ⟨_, _, rfl, rfl, hz, k _ _ (out_at (.str _))⟩
    · cases e
  · cases e
theorem oi_sub : OpR X (inplaceOp .Sub) (r2D X.K dSub) := by
  intro pins s σ H x y v u Q I rx ry ⟨W, dx, dy, r, wd, hx, hy, e, k⟩
  unfold dSub at e
  split at e
  · cases e
    cases hx.int; cases hy.int
    exact iop_sub pins s σ H _ _ v u Q I rx ry ⟨_, _, rfl, rfl, k _ _ (out_at (.int _))⟩
  · cases e
end
end VL

set_option Elab.async false
set_option linter.all false
set_option maxRecDepth 100000
set_option autoImplicit false
/-! The value layer, part 18: comprehensions with two for, x[i] op= v, calls of defs. -/
namespace VL
open PySem PySem.Spec L2

theorem wipe_wipe {σ : L2.St} {vs vs1 : List Nat} (h : ∀ i ∈ vs1, i ∈ vs) : wipe (wipe σ vs1) vs = wipe σ vs := by
  refine List.ext_getElem? fun i => ?_
  by_cases q : i ∈ vs
  · rw [wipe_in q, wipe_in q, wipe_length]
  · rw [wipe_out q, wipe_out q, wipe_out fun z => q (h i z)]
/-! ### what is walked within: nothing that is locked -/
abbrev IG := MS → Option (List D × MS)
def ItW (K : PySem.W.Frag) (J : It) (ds : List D) (H : Hp) (Z : Zn) : Prop := ∀ (H2 : Hp) (Z2 : Zn), Ks H Z.W H2 Z2.W → ∀ i, (∀ d, ds[i]? = some d → J.go i H2 ∧ ∀ x H3, J.yld i H2 x H3 → H3 = H2 ∧ Rep K H2 Z2.W x d) ∧ (ds.length ≤ i → J.stop i H2)
def tIW (K : PySem.W.Frag) (f : IG) : TI := fun σ H R => ∃ C Z m ds m', SR K C Z m σ H ∧ f m = some (ds, m') ∧ ∀ J H' Z', Ev Z H Z' H' → SR K C Z' m' σ H' → ItW K J ds H' Z' → R J H'
abbrev MIW (X : Cx) (tg it : Expr) (f : IG) : Prop := PI X tg it (tIW X.K f)
def iW1 (fs : AF) : IG := fun m => match fs m with
  | some ([p], m1) => match rd p m1 with
    | some (.int j) => if -(2 ^ 62) ≤ j ∧ j < 2 ^ 62 then some (rangeD 0 1 j.toNat, m1) else none
    | _ => none
  | _ => none
def iW2 (fs : AF) : IG := fun m => match fs m with
  | some ([p, q], m1) => match rd p m1, rd q m1 with
    | some (.int i), some (.int j) => if -(2 ^ 62) ≤ i ∧ i < 2 ^ 62 ∧ -(2 ^ 62) ≤ j ∧ j < 2 ^ 62 then some (rangeD i 1 (j - i).toNat, m1) else none
    | _, _ => none
  | _ => none
def iSeqW (f : EF) : IG := fun m => match f m with
  | some (.val (.lst ds), m1) => some (ds, m1)
  | some (.val (.tup ds), m1) => some (ds, m1)
  | some (.val (.frz ds), m1) => some (ds, m1)
  | some (.val (.str z), m1) => some (strD z, m1)
  | some (.fresh (.lst ds), m1) => some (ds, m1)
  | _ => none
theorem itrW {K : PySem.W.Frag} {lo : Int} {n : Nat} {H : Hp} {Z : Zn} : ItW K (Itr lo n) (rangeD lo 1 n) H Z := fun H2 Z2 _ i => ⟨fun d e => by
  obtain ⟨h1, rfl⟩ := rangeD_get e
  refine ⟨h1, fun x H3 y => ?_⟩
  obtain ⟨rfl, rfl⟩ := y
  refine ⟨rfl, ?_⟩
  rw [Int.mul_one]
  exact .int _, fun h => by rw [rangeD_len] at h; exact h⟩
theorem itlW {K : PySem.W.Frag} {H : Hp} {Z : Zn} {a : Addr} {vs : List V} {ds : List D} (st : ∀ H2 Z2, Ks H Z.W H2 Z2 → SqL K H2 a vs) (r : Reps K H Z.W vs ds) : ItW K (Itl K a) ds H Z := fun H2 Z2 E i => by
  have q := st H2 _ E
  have r2 := r.ks E
  refine ⟨fun d e => ?_, fun hl => ⟨vs, q, by rw [r.length]; exact hl⟩⟩
  obtain ⟨v, h1, h2⟩ := r2.get e
  refine ⟨⟨vs, v, q, h1⟩, fun x H3 y => ?_⟩
  obtain ⟨rfl, y⟩ := y
  refine ⟨rfl, ?_⟩
  have := (y vs q).symm.trans h1
  cases this
  exact h2
theorem ittW {K : PySem.W.Frag} {H : Hp} {Z : Zn} {a : Addr} {vs : List V} {ds : List D} (n : ¬ Z.W a) (h : TupAt H a vs) (r : Reps K H Z.W vs ds) : ItW K (Itt K a) ds H Z := fun H2 Z2 E i => by
  have q : SqT K H2 a vs := (h.ks E n).2.seq
  have r2 := r.ks E
  refine ⟨fun d e => ?_, fun hl => ⟨vs, q, by rw [r.length]; exact hl⟩⟩
  obtain ⟨v, h1, h2⟩ := r2.get e
  refine ⟨⟨vs, v, q, h1⟩, fun x H3 y => ?_⟩
  obtain ⟨rfl, y⟩ := y
  refine ⟨rfl, ?_⟩
  have := (y vs q).symm.trans h1
  cases this
  exact h2
theorem itsW {K : PySem.W.Frag} {H : Hp} {Z : Zn} {z : Str} : ItW K (Its z) (strD z) H Z := fun H2 Z2 E i => by
  unfold strD
  refine ⟨fun d e => ?_, fun hl => (show z.cps.size ≤ i by simpa using hl)⟩
  rw [List.getElem?_map] at e
  cases q : z.cps.toList[i]? with
  | none => rw [q] at e; cases e
  | some c =>
    rw [q] at e
    cases e
    have q' : z.cps[i]? = some c := by simpa using q
    refine ⟨(show i < z.cps.size by have := lt_of_get q; simpa using this), fun x H3 y => ?_⟩
    obtain ⟨rfl, c', h1, rfl⟩ := y
    rw [q'] at h1
    cases h1
    exact ⟨rfl, .str _⟩
section
variable {X : Cx} {e : Expr} {fe : EF} {pos : Pos}
theorem miw_range1 {tg a : Expr} {fs : AF} {p : Pos} (hg : Gl X "range") (hm : X.mg "range" = none) (ha : MA X [a] fs) (hs : starEach [a] X.env = [(false, eval a X.env)] := by rfl) : MIW X tg (.Call (.Name "range" p) [a] [] pos) (iW1 fs) :=
  (pi_range1 hg hm ha hs).weak fun σ H R ⟨C, Z, m, ds, m', S, e, k⟩ => by
    unfold iW1 at e
    split at e
    · rename_i q m1 e1
      split at e
      · rename_i j ej
        split at e
        · rename_i hj
          cases e
          refine ⟨C, Z, m, _, _, S, e1, fun vs H1 Z1 E1 S1 r1 => ?_⟩
          obtain ⟨v, rfl, r⟩ := rps1 r1
          cases (S1.rd r ej).int
          exact ⟨j, rfl, hj.1, hj.2, k _ H1 Z1 E1 S1 itrW⟩
        · cases e
      · cases e
    · cases e
theorem miw_range2 {tg a b : Expr} {fs : AF} {p : Pos} (hg : Gl X "range") (hm : X.mg "range" = none) (ha : MA X [a, b] fs) (hs : starEach [a, b] X.env = [(false, eval a X.env), (false, eval b X.env)] := by rfl) (hs2 : starEach [b] X.env = [(false, eval b X.env)] := by rfl) : MIW X tg (.Call (.Name "range" p) [a, b] [] pos) (iW2 fs) :=
  (pi_range2 hg hm ha hs hs2).weak fun σ H R ⟨C, Z, m, ds, m', S, e, k⟩ => by
    unfold iW2 at e
    split at e
    · rename_i q1 q2 m1 e1
      split at e
      · rename_i i j ei ej
        split at e
        · rename_i hj
          cases e
          refine ⟨C, Z, m, _, _, S, e1, fun vs H1 Z1 E1 S1 r1 => ?_⟩
          obtain ⟨v, u, rfl, r, r'⟩ := rps2 r1
          cases (S1.rd r ei).int
          cases (S1.rd r' ej).int
          exact ⟨i, j, rfl, hj, k _ H1 Z1 E1 S1 itrW⟩
        · cases e
      · cases e
    · cases e
theorem miw_seq {tg : Expr} (he : ME X e fe) : MIW X tg e (iSeqW fe) :=
  (((pi_list he).or (pi_tup he)).or (pi_str he)).weak fun σ H R ⟨C, Z, m, ds, m', S, e, k⟩ => by
    unfold iSeqW at e
    split at e
    · rename_i es m1 e1
      cases e
      refine .inl (.inl (tE_one S e1 fun v H1 Z1 E1 S1 r1 => ?_))
      cases (show Rep X.K H1 Z1.W v (.lst ds) from r1) with
      | @lst a vs _ n h1 r => exact ⟨a, rfl, ⟨vs, SqL.of h1⟩, k _ H1 Z1 E1 S1 (itlW (fun H2 Z2 E => SqL.of (E.h a _ n h1)) r)⟩
    · rename_i es m1 e1
      cases e
      refine .inl (.inr (tE_one S e1 fun v H1 Z1 E1 S1 r1 => ?_))
      cases (show Rep X.K H1 Z1.W v (.tup ds) from r1) with
      | @tup a vs _ n h1 r => exact ⟨a, rfl, ⟨vs, h1.seq⟩, k _ H1 Z1 E1 S1 (ittW n h1 r)⟩
    · rename_i es m1 e1
      cases e
      refine .inl (.inl (tE_one S e1 fun v H1 Z1 E1 S1 r1 => ?_))
      cases (show Rep X.K H1 Z1.W v (.frz ds) from r1) with
      | @frz a vs _ h1 r => exact ⟨a, rfl, ⟨vs, h1.seq⟩, k _ H1 Z1 E1 S1 (itlW (fun H2 Z2 E => (h1.ks E).seq) r)⟩
    · rename_i z m1 e1
      cases e
      refine .inr (tE_one S e1 fun v H1 Z1 E1 S1 r1 => ?_)
      cases (show Rep X.K H1 Z1.W v (.str z) from r1)
      exact ⟨z, rfl, k _ H1 Z1 E1 S1 itsW⟩
    · rename_i es m1 e1
      cases e
      refine .inl (.inl (tE_one S e1 fun v H1 Z1 E1 S1 r1 => ?_))
      obtain ⟨a, rfl, n, _, _, _, vs, h1, r⟩ := r1
      exact ⟨a, rfl, ⟨vs, SqL.of h1⟩, k _ H1 Z1 E1 S1 (itlW (fun H2 Z2 E => SqL.of (E.h a _ n h1)) (r.ks (.sub fun b z => .inr z)))⟩
    · cases e
end
def lcO (vs vs1 : List Nat) (tg : GF) (tt : TF) (it1 : IG) (tg1 : GF) (tt1 : TF) (el : EF) : List D → MS → List D → Option (List D × MS)
  | [], m, acc => some (acc, m)
  | d :: ds, m, acc => match tg d m with
    | some m1 => match tt m1 with
      | some (true, m2) => match it1 m2 with
        | some (es, m3) => if okWipe m3 vs1 then (match lcL vs1 tg1 tt1 el es (wipeM m3 vs1) acc with
          | some (acc', m4) => if okWipe m4 vs then lcO vs vs1 tg tt it1 tg1 tt1 el ds (wipeM m4 vs) acc' else none
          | none => none) else none
        | _ => none
      | some (false, m2) => if okWipe m2 vs then lcO vs vs1 tg tt it1 tg1 tt1 el ds (wipeM m2 vs) acc else none
      | none => none
    | none => none
def mLc2 (vs vs1 : List Nat) (it : IF) (tg : GF) (tt : TF) (it1 : IG) (tg1 : GF) (tt1 : TF) (el : EF) : EF := fun m => match it m with
  | some (ds, m1, bk) => if okWipe m1 vs then (match lcO vs vs1 tg tt it1 tg1 tt1 el ds (wipeM m1 vs) [] with
    | some (acc, m2) => match unlockM (restM m1 m2 vs) bk with
      | some m3 => some (.fresh (.lst acc), m3)
      | none => none
    | none => none) else none
  | none => none
section
variable {X : Cx} {elt tg iter tg1 iter1 : Expr} {ifs ifs1 : List Expr} {scope : Scope} {own : List (Str × Nat)} {pos : Pos} {fit : IF} {fit1 : IG} {ts ts1 vs1 : List Nat} {gf gf1 : GF} {tt tt1 : TF} {el : EF}
theorem tE_lc2 {σ : L2.St} {H : Hp} {Q : VK} {vs : List Nat} (hv : ∀ i ∈ ts, i ∈ vs) (hv1 : ∀ i ∈ ts1, i ∈ vs1) (hs1 : ∀ i ∈ vs1, i ∈ vs) (h : tE X.K (mLc2 vs vs1 fit gf tt fit1 gf1 tt1 el) σ H Q) : tLc2 (tI X.K fit) (tG X.K ts gf) (tT X.K tt) (tIW X.K fit1) (tG X.K ts1 gf1) (tT X.K tt1) (tE X.K el) vs vs1 σ H Q := by
  obtain ⟨C, Z, m, p, m', S, e, k⟩ := h
  unfold mLc2 at e
  split at e
  · rename_i ds m1 bk e1
    split at e
    · rename_i ok1
      split at e
      · rename_i accF mF e2
        split at e
        · rename_i m3 e3
          cases e
          refine ⟨C, Z, m, ds, m1, bk, S, e1, fun J H1 Z1 E1 S1 ok bko D0 hD => ?_⟩
          have na : D0 ∉ C.res := S1.resNew hD
          have bko' : BkOk (C.rs D0) Z H m1 σ bk := bko
          have Sb : SR X.K ((C.rs D0).lk σ bk) ⟨Z1.M, fun b => b = D0 ∨ Z1.W b⟩ m1 σ (upd H1 D0 (.lst [])) := (S1.begin hD).lkIn bko'
          have Sw := Sb.wipeS ok1
          have ev0 : Ev Z1 H1 ⟨Z1.M, fun b => b = D0 ∨ Z1.W b⟩ (upd H1 D0 (.lst [])) := ⟨fun b x n q => same_new hD b x q, fun b z => .inl z, fun b z => z.elim (fun q => .inr (by rw [q]; exact hD)) .inl, fun b z q => by
            by_cases hb : b = D0
            · rw [hb, upd_same] at q; cases q
            · rw [upd_ne hb] at q; exact z q⟩
          have hres : D0 ∈ ((C.rs D0).lk σ bk).res := by rw [lk_res]; exact List.mem_cons_self
          refine ⟨fun i mm H2 => mm = ds.length - i ∧ i ≤ ds.length ∧ ∃ Z2 n acc av, Ev Z1 H1 Z2 H2 ∧ SR X.K ((C.rs D0).lk σ bk) Z2 n (wipe σ vs) H2 ∧ H2 D0 = some (.lst av) ∧ Reps X.K H2 Z2.W av acc ∧ lcO vs vs1 gf tt fit1 gf1 tt1 el (ds.drop i) n acc = some (accF, mF), ⟨_, rfl, Nat.zero_le _, _, _, [], [], ev0, Sw, upd_same, .nil, e2⟩, ?_⟩
          rintro i mm H2 ⟨rfl, hi, Z2, n, acc, av, E2, S2, hD2, racc, eL⟩
          have okk := ok H2 Z2 E2 S2.wdom i
          by_cases hlt : i < ds.length
          · obtain ⟨go, yl⟩ := okk.1 ds[i] (List.getElem?_eq_getElem hlt)
            rw [List.drop_eq_getElem_cons hlt] at eL
            unfold lcO at eL
            split at eL
            · rename_i n1 en1
              refine .inr ⟨go, fun H6 => ∃ Z6 n6 acc6 av6, Ev Z1 H1 Z6 H6 ∧ SR X.K ((C.rs D0).lk σ bk) Z6 n6 (wipe σ vs) H6 ∧ H6 D0 = some (.lst av6) ∧ Reps X.K H6 Z6.W av6 acc6 ∧ lcO vs vs1 gf tt fit1 gf1 tt1 el (ds.drop (i + 1)) n6 acc6 = some (accF, mF), fun H6 ⟨Z6, n6, acc6, av6, w1, w2, w3, w4, w5⟩ => ⟨_, by omega, rfl, hlt, Z6, n6, acc6, av6, w1, w2, w3, w4, w5⟩, fun x H3 y => ?_⟩
              obtain ⟨rfl, rep⟩ := yl x H3 y
              refine ⟨_, Z2, n, ds[i], n1, S2, rep, en1, fun σ3 H4 Z4 E4 S4 w4 => ?_⟩
              have wv : wipe σ3 vs = wipe σ vs := (w4 vs hv).trans (wipe_idem σ vs)
              refine ⟨wv, ?_⟩
              split at eL
              · rename_i n2 en2
                refine ⟨_, Z4, n1, true, n2, S4, en2, fun H5 Z5 E5 S5 => iteT ?_⟩
                split at eL
                · rename_i es n3 en3
                  split at eL
                  · rename_i okw1
                    split at eL
                    · rename_i acc' n4 eI
                      split at eL
                      · rename_i okw
                        refine ⟨_, Z5, n2, es, n3, S5, en3, fun J1 H7 Z7 E7 S7 okJ => ?_⟩
                        have E27 := (E4.trans E5).trans E7
                        have nm := (S2.res D0 hres).2.1
                        have hD7 : H7 D0 = some (.lst av) := E27.h D0 _ nm hD2
                        refine ⟨fun j kk H8 => kk = es.length - j ∧ j ≤ es.length ∧ ∃ Z8 q8 acc8 av8, Ev Z1 H1 Z8 H8 ∧ Ks H7 Z7.W H8 Z8.W ∧ SR X.K ((C.rs D0).lk σ bk) Z8 q8 (wipe σ3 vs1) H8 ∧ H8 D0 = some (.lst av8) ∧ Reps X.K H8 Z8.W av8 acc8 ∧ lcL vs1 gf1 tt1 el (es.drop j) q8 acc8 = some (acc', n4), ⟨_, rfl, Nat.zero_le _, Z7, _, acc, av, E2.trans E27, .refl, S7.wipeS okw1, hD7, racc.ks (S2.ks E27), eI⟩, ?_⟩
                        rintro j kk H8 ⟨rfl, hj, Z8, q8, acc8, av8, E8, K8, S8, hD8, racc8, eL8⟩
                        have okj := okJ H8 Z8 K8 j
                        by_cases hltj : j < es.length
                        · obtain ⟨goj, ylj⟩ := okj.1 es[j] (List.getElem?_eq_getElem hltj)
                          rw [List.drop_eq_getElem_cons hltj] at eL8
                          unfold lcL at eL8
                          split at eL8
                          · rename_i q9 eq9
                            refine .inr ⟨goj, fun H9 => ∃ Z9 q9 acc9 av9, Ev Z1 H1 Z9 H9 ∧ Ks H7 Z7.W H9 Z9.W ∧ SR X.K ((C.rs D0).lk σ bk) Z9 q9 (wipe σ3 vs1) H9 ∧ H9 D0 = some (.lst av9) ∧ Reps X.K H9 Z9.W av9 acc9 ∧ lcL vs1 gf1 tt1 el (es.drop (j + 1)) q9 acc9 = some (acc', n4), fun H9 ⟨Z9, q9, acc9, av9, w1, w1', w2, w3, w4, w5⟩ => ⟨_, by omega, rfl, hltj, Z9, q9, acc9, av9, w1, w1', w2, w3, w4, w5⟩, fun x9 H9 y9 => ?_⟩
                            obtain ⟨rfl, rep9⟩ := ylj x9 H9 y9
                            refine ⟨_, Z8, q8, es[j], q9, S8, rep9, eq9, fun σ4 H10 Z10 E10 S10 w10 => ?_⟩
                            have wv1 : wipe σ4 vs1 = wipe σ3 vs1 := (w10 vs1 hv1).trans (wipe_idem σ3 vs1)
                            refine ⟨wv1, ?_⟩
                            split at eL8
                            · rename_i q10 eq10
                              refine ⟨_, Z10, q9, true, q10, S10, eq10, fun H11 Z11 E11 S11 => iteT ?_⟩
                              split at eL8
                              · rename_i p q11 eq11
                                split at eL8
                                · rename_i d' q12 eq12
                                  split at eL8
                                  · rename_i g
                                    rw [Bool.and_eq_true, decide_eq_true_eq] at g
                                    refine tE_one S11 eq11 fun v H12 Z12 E12 S12 r12 => ?_
                                    obtain ⟨Z13, E13, S13, r13⟩ := S12.force r12 eq12
                                    have E813 := ((E10.trans E11).trans E12).trans E13
                                    have nm8 := (S8.res D0 hres).2.1
                                    have hD12 : H12 D0 = some (.lst av8) := E813.h D0 _ nm8 hD8
                                    have w13 := (S13.res D0 hres).1
                                    have ks13 : Ks H12 Z13.W (upd H12 D0 (.lst (av8 ++ [v]))) Z13.W := ⟨fun b o nb q => by rw [upd_ne (fun z => nb (by rw [z]; exact w13))]; exact q, fun _ z => .inl z⟩
                                    have hS7 := S7.res D0 hres
                                    refine ⟨av8, hD12, by rw [racc8.length]; exact g.2, Z13, wipeM q12 vs1, acc8 ++ [d'], av8 ++ [v], ev_at (E8.trans E813) hD, (K8.trans (S8.ks E813)).trans ks13, ?_, upd_same, ?_, eL8⟩
                                    · rw [← wv1]
                                      exact (S13.resWrite hres).wipeS g.1
                                    · exact ((racc8.ks (S8.ks E813)).append (.cons r13 .nil)).ks ks13
                                  · cases eL8
                                · cases eL8
                              · cases eL8
                            · rename_i q10 eq10
                              split at eL8
                              · rename_i g
                                refine ⟨_, Z10, q9, false, q10, S10, eq10, fun H11 Z11 E11 S11 => iteF ?_⟩
                                have E811 := E10.trans E11
                                have nm8 := (S8.res D0 hres).2.1
                                refine ⟨Z11, wipeM q10 vs1, acc8, av8, E8.trans E811, K8.trans (S8.ks E811), ?_, E811.h D0 _ nm8 hD8, racc8.ks (S8.ks E811), eL8⟩
                                rw [← wv1]
                                exact S11.wipeS g
                              · cases eL8
                            · cases eL8
                          · cases eL8
                        · have he : j = es.length := by omega
                          subst he
                          rw [List.drop_length] at eL8
                          cases eL8
                          refine .inl ⟨okj.2 (Nat.le_refl _), Z8, wipeM n4 vs, acc', av8, E8, ?_, hD8, racc8, eL⟩
                          have := S8.wipeS okw
                          rw [wipe_wipe hs1, wv] at this
                          exact this
                      · cases eL
                    · cases eL
                  · cases eL
                · cases eL
              · rename_i n2 en2
                split at eL
                · rename_i g
                  refine ⟨_, Z4, n1, false, n2, S4, en2, fun H5 Z5 E5 S5 => iteF ?_⟩
                  have E25 := E4.trans E5
                  have nm := (S2.res D0 hres).2.1
                  refine ⟨Z5, wipeM n2 vs, acc, av, E2.trans E25, ?_, E25.h D0 _ nm hD2, racc.ks (S2.ks E25), eL⟩
                  rw [← wv]
                  exact S5.wipeS g
                · cases eL
              · cases eL
            · cases eL
          · have he : i = ds.length := by omega
            subst he
            rw [List.drop_length] at eL
            cases eL
            refine .inl ⟨okk.2 (Nat.le_refl _), ?_⟩
            have Sr := S1.restore E2 S2 ok1
            obtain ⟨Z3, E3, S3, w3⟩ := Sr.lkEnd bko' (E1.trans E2) e3
            obtain ⟨Sa, Sb'⟩ := S3.finish na
            have h0 : H D0 = none := by
              cases q : H D0 with
              | none => rfl
              | some o => exact absurd hD (E1.d D0 (by rw [q]; simp))
            refine k (.ref D0) H2 ⟨Z3.M, fun b => Z3.W b ∧ b ≠ D0⟩ ⟨E3.h, E3.m, fun b z => E3.w b z.1, E3.d⟩ Sa ⟨D0, rfl, fun z => z.2 rfl, h0, S1.new0 hD, Sb', av, hD2, racc.ks (.sub fun b z => ?_)⟩
            rw [← w3]
            rcases z with z | z
            · rw [z, w3]; exact (S2.res D0 hres).1
            · exact z.1
        · cases e
      · cases e
    · cases e
  · cases e
theorem me_lc2 (hc : X.calm = true) (hN : X.N.Nodup) (hi : MI X tg iter fit) (ok : BlkOk X.N X.env.scope scope own) (hv : ∀ i ∈ ts, i ∈ own.map (·.2)) (hv1 : ∀ i ∈ ts1, i ∈ vs1) (hs1 : ∀ i ∈ vs1, i ∈ own.map (·.2))
    (hg : ∀ (s : Shared) (H : Hp) (C : Addr) (cl : List (Str × Addr)) (fp : List Addr), MG (X.blk s H scope (compEnvC scope cl C X.env) fp) tg ts gf) (ht : ∀ (s : Shared) (H : Hp) (C : Addr) (cl : List (Str × Addr)) (fp : List Addr), MTs (X.blk s H scope (compEnvC scope cl C X.env) fp) ifs tt)
    (hi1 : ∀ (s : Shared) (H : Hp) (C : Addr) (cl : List (Str × Addr)) (fp : List Addr), MIW (X.blk s H scope (compEnvC scope cl C X.env) fp) tg1 iter1 fit1)
    (hg1 : ∀ (s : Shared) (H : Hp) (C : Addr) (cl : List (Str × Addr)) (fp : List Addr), MG (X.blk s H scope (compEnvC scope cl C X.env) fp) tg1 ts1 gf1) (ht1 : ∀ (s : Shared) (H : Hp) (C : Addr) (cl : List (Str × Addr)) (fp : List Addr), MTs (X.blk s H scope (compEnvC scope cl C X.env) fp) ifs1 tt1)
    (he : ∀ (s : Shared) (H : Hp) (C : Addr) (cl : List (Str × Addr)) (fp : List Addr), ME (X.blk s H scope (compEnvC scope cl C X.env) fp) elt el) (hs : ∀ x, foldedSetIterable iter X.env x = pure x := by intro _; rfl) (hf1 : ∀ env x, foldedSetIterable iter1 env x = pure x := by intro _ _; rfl) :
    ME X (.ListComp elt [⟨tg, iter, ifs, 0⟩, ⟨tg1, iter1, ifs1, 0⟩] scope pos) (mLc2 (own.map (·.2)) vs1 fit gf tt fit1 gf1 tt1 el) := (pe_lc2 hc hN hi ok hs1 hg ht hi1 hg1 ht1 he hs hf1).weak fun σ H Q h => tE_lc2 hv hv1 hs1 h
theorem ms_setLc2 {i : Nat} {y : Str} {py spos : Pos} {ow : Bool} (hc : X.calm = true) (hN : X.N.Nodup) (hy : X.N[i]? = some y) (hyl : X.env.scope.names.lookup y = some .local)
    (hsw : swapsWith (.ListComp elt [⟨tg, iter, ifs, 0⟩, ⟨tg1, iter1, ifs1, 0⟩] scope pos) (some (.Name y py)) spos.line X.env = pure true) (hi : MI X tg iter fit) (ok : BlkOk X.N X.env.scope scope own) (hv : ∀ i ∈ ts, i ∈ own.map (·.2)) (hv1 : ∀ i ∈ ts1, i ∈ vs1) (hs1 : ∀ i ∈ vs1, i ∈ own.map (·.2))
    (hg : ∀ (s : Shared) (H : Hp) (C : Addr) (cl : List (Str × Addr)) (fp : List Addr), MG (X.blk s H scope (compEnvC scope cl C X.env) fp) tg ts gf) (ht : ∀ (s : Shared) (H : Hp) (C : Addr) (cl : List (Str × Addr)) (fp : List Addr), MTs (X.blk s H scope (compEnvC scope cl C X.env) fp) ifs tt)
    (hi1 : ∀ (s : Shared) (H : Hp) (C : Addr) (cl : List (Str × Addr)) (fp : List Addr), MIW (X.blk s H scope (compEnvC scope cl C X.env) fp) tg1 iter1 fit1)
    (hg1 : ∀ (s : Shared) (H : Hp) (C : Addr) (cl : List (Str × Addr)) (fp : List Addr), MG (X.blk s H scope (compEnvC scope cl C X.env) fp) tg1 ts1 gf1) (ht1 : ∀ (s : Shared) (H : Hp) (C : Addr) (cl : List (Str × Addr)) (fp : List Addr), MTs (X.blk s H scope (compEnvC scope cl C X.env) fp) ifs1 tt1)
    (he : ∀ (s : Shared) (H : Hp) (C : Addr) (cl : List (Str × Addr)) (fp : List Addr), ME (X.blk s H scope (compEnvC scope cl C X.env) fp) elt el) (hs : ∀ x, foldedSetIterable iter X.env x = pure x := by intro _; rfl) (hf1 : ∀ env x, foldedSetIterable iter1 env x = pure x := by intro _ _; rfl) :
    MSt X (.Assign [.Name y py] (.ListComp elt [⟨tg, iter, ifs, 0⟩, ⟨tg1, iter1, ifs1, 0⟩] scope pos) spos) (sSet i ow (mLc2 (own.map (·.2)) vs1 fit gf tt fit1 gf1 tt1 el)) :=
  (ps_setLc2 hc hN hy hyl hsw hi ok hs1 hg ht hi1 hg1 ht1 he hs hf1).weak fun D σ H h => by
    obtain ⟨C, Z, m, fl, m', S, e, k⟩ := h
    unfold sSet at e
    split at e
    · rename_i p m1 e1
      split at e
      · rename_i m2 e2
        cases e
        exact tE_lc2 hv hv1 hs1 (tE_one S e1 fun v H1 Z1 E1 S1 r1 => by
          obtain ⟨Z2, E2, S2⟩ := put_ok E1 S1 r1 e2
          exact k _ H1 Z2 E2 S2)
      · cases e
    · cases e
end

/-! ### calls of defs -/
section
variable {X : Cx} {e : Expr} {es : List Expr} {fs : AF} {k : Nat} {f : Addr} {fd : FuncData} {ps : List Str} {x : Str} {p pos : Pos} {modes : List Bool} {F : DF}
theorem me_call (Fn : FnOk X.prog X.w X.K X.mg X.base CX0 k f fd ps (spF X.K modes F)) (hr : Room k X.A) (hg : Gl X x) (hm : X.mg x = some (.ref f)) (hk : PySem.W.keepIn X.K (.ref f) = true) (hb : Binds X.K fd ps []) (hx : Passes CX0 X E0)
    (ha : MA X (e :: es) fs) (hdb : (x == ("__debug__" : Str)) = false := by decide) (he : starEach (e :: es) X.env = (false, eval e X.env) :: starEach es X.env := by rfl) (hpl : (backTo pos (starEach es X.env)).any (·.1) = false := by rfl) : ME X (.Call (.Name x p) (e :: es) [] pos) (mCall modes F fs) :=
  (pe_call Fn hr hg hm hk hb .nil hx ha hdb he hpl).weak fun _ _ _ h => tE_call h
end

/-! ### x[i] op= v -/
@[simp] def getD2 : D → D → Option D
  | .lst ds, .int k => atI ds k
  | .dct ks ds, dx => match keyD dx with
    | some j => dctAt ks ds j
    | none => none
  | _, _ => none
def rGetD (K : PySem.W.Frag) : V → V → Hp → VK → Prop := fun x y H Q => ∃ (W : AS) (dx dy d : D), RdV K H W x dx ∧ RdV K H W y dy ∧ getD2 dx dy = some d ∧ ∀ v, Rep K H W v d → Q v H
section
variable {X : Cx}
theorem pget_D (hu : X.A.units + 64 < cLine) : PGet X (rGetD X.K) := by
  intro pins s σ H x y ov iv Q I rx ry ⟨W, dx, dy, d, hx, hy, e, k⟩
  unfold getD2 at e
  split at e
  · rename_i ds i
    obtain ⟨a, vs, rfl, h1, r1⟩ := hx.lst
    cases hy.int
    cases rx
    obtain ⟨t, rfl⟩ := ry
    obtain ⟨v, ev, rv⟩ := reps_atI r1 e
    obtain ⟨its, rr, pl, hz⟩ := I.list (SqL.of h1)
    obtain ⟨j, g1, g2, g3, g4, g5⟩ := atI_get ev
    obtain ⟨w, ew, rw'⟩ := rr.get g2
    have hl := rr.length
    have hn := line63
    by_cases h0 : 0 ≤ i
    · have hj : i.toNat = j := by
        rw [seqIndex_of h0 g5] at g1
        exact Option.some.inj g1
      exact wpAny_getItem_list pl.isList h0 (by omega) (by rw [hj]; simpa using ew) ⟨v, H, I, rw', k _ rv⟩
    · have hj : (i + (its.toArray.size : Int)).toNat = j := by
        rw [seqIndex_neg (by omega) g4] at g1
        rw [List.size_toArray, ← hl]
        exact Option.some.inj g1
      exact wpAny_getItem_list_neg pl.isList (by omega) (by rw [List.size_toArray] <;> omega) (by omega) (by rw [hj]; simpa using ew) ⟨v, H, I, rw', k _ rv⟩
  · rename_i ks ds
    split at e
    · rename_i j ej
      obtain ⟨a, vs, rfl, h1, l, r1⟩ := hx.dct
      cases keyD_kV hy ej
      cases rx
      obtain ⟨v, ev, rv⟩ := (dct_val j l r1).1 d e
      exact d_getItem (by omega) I (by rw [← ev]; exact DGet.k h1) ry fun w' s' I' rw' => ⟨v, H, I', rw', k _ rv⟩
    · cases e
  · cases e
def sAugX (i : Nat) (g : D → D → Option P) (gs : D → D → D → Option D) (fi fe : EF) : SF := fun m => if (wrt i m).isSome then (match fi m with
  | some (p, m1) => match rd p m1, wrt i m1 with
    | some dx, some (_, d0) => match getD2 d0 dx, fe m1 with
      | some x0, some (q, m2) => match rd q m2, rd p m2 with
        | some y, some dx2 => match g x0 y with
          | some (.val z) => match wrt i m2 with
            | some (t, d) => match gs d dx2 z with
              | some d' => some (.nx, m2.set i (some (t, d')))
              | none => none
            | none => none
          | _ => none
        | _, _ => none
      | _, _ => none
    | _, _ => none
  | none => none) else none
theorem ms_augX {o e v : Expr} {i : Nat} {fi fe : EF} {op : Operator} {g : D → D → Option P} {gs : D → D → D → Option D} {r : TSet} {tpos pos : Pos} (hu : X.A.units + 64 < cLine) (ho : PE X o (tVar i)) (hi : ME X e fi) (he : ME X v fe) (hop : OpR X (inplaceOp op) (r2D X.K g)) (hs : PSet X r) (w : StOk X.K r gs)
    (ha : ∀ ov iv new, augStore e ov iv new = (do holding [new, ov, iv] (setItem ov iv new); release [new, ov, iv] []; pure .next) := by intros; rfl) : MSt X (.AugAssign (.Subscript o e tpos) op v pos) (sAugX i g gs fi fe) :=
  (ps_augS ho hi (pget_D hu) he hop hs ha).weak fun D σ H ⟨C, Z, m, fl, m', S, e, k⟩ => by
    unfold sAugX at e
    split at e
    · rename_i hw
      obtain ⟨a, h1⟩ := wrt_at S hw
      split at e
      · rename_i p m1 e1
        split at e
        · rename_i dx t0 d0 e2 ew0
          split at e
          · rename_i x0 q m2 e3 e4
            split at e
            · rename_i y dx2 e5 e6
              split at e
              · rename_i z e7
                split at e
                · rename_i t d ew
                  split at e
                  · rename_i d' e8
                    cases e
                    refine ⟨_, h1, tE_one S e1 fun xi H1 Z1 E1 S1 r1 => ?_⟩
                    obtain ⟨em0, ht0⟩ := wrt_get ew0
                    obtain ⟨a0, g1, g2, g3, _⟩ := S1.own i t0 d0 em0 (by rcases ht0 with h | h <;> (rw [h]; decide))
                    rw [h1] at g1
                    cases g1
                    refine ⟨Z1.W, d0, dx, x0, .inr ⟨a, rfl, g2, g3⟩, S1.rd r1.rp e2, e3, fun vx rx => ?_⟩
                    refine tE_one S1 e4 fun vy H2 Z2 E2 S2 r2 => ?_
                    refine ⟨Z2.W, x0, y, .val z, S2.wdom, .inl (rx.ks (S1.ks E2)), S2.rd r2.rp e5, e7, fun vz H3 oz => ?_⟩
                    obtain ⟨E3, S3, r3⟩ := oz.fin S2
                    obtain ⟨em, ht⟩ := wrt_get ew
                    obtain ⟨a1, k1, k2, k3, _⟩ := S3.own i t d em (by rcases ht with h | h <;> (rw [h]; decide))
                    rw [h1] at k1
                    cases k1
                    have rp : RP X.K H3 Z2 σ xi p := (r1.rp.ks (S1.ks E2)).ks (S2.ks E3)
                    refine w.run k2 k3 (S3.rd rp e6) r3 e8 fun ob ow => ?_
                    obtain ⟨ev, S'⟩ := S3.write em ht h1 ow
                    exact k σ _ Z2 (((E1.trans E2).trans E3).trans ev) S'
                  · cases e
                · cases e
              · cases e
            · cases e
          · cases e
        · cases e
      · cases e
    · cases e
end

/-! ### a def that stands ready to be called -/
def Has (Pr : Program) (w : World) (K : PySem.W.Frag) (mg : Str → Option Value) (base : Heap) (x : Str) (st : Stmt) (ps : List Str) (lvl : Nat) (modes : List Bool) (F : DF) : Prop :=
  ∃ f fd, mg x = some (.ref f) ∧ Fun K x x st f fd ∧ Binds K fd ps [] ∧ FnOk Pr w K mg base CX0 lvl f fd ps (spF K modes F)
section
variable {X : Cx} {e : Expr} {es : List Expr} {fs : AF} {x : Str} {p pos : Pos} {modes : List Bool} {F : DF} {st : Stmt} {ps : List Str} {lvl : Nat}
theorem me_callH (h : Has X.prog X.w X.K X.mg X.base x st ps lvl modes F) (hr : Room lvl X.A) (hg : Gl X x) (ha : MA X (e :: es) fs) (hdb : (x == ("__debug__" : Str)) = false := by decide)
    (he : starEach (e :: es) X.env = (false, eval e X.env) :: starEach es X.env := by rfl) (hpl : (backTo pos (starEach es X.env)).any (·.1) = false := by rfl) : ME X (.Call (.Name x p) (e :: es) [] pos) (mCall modes F fs) := by
  obtain ⟨f, fd, hm, F1, hb, Fn⟩ := h
  exact me_call Fn hr hg hm F1.kp hb pass0 ha hdb he hpl
theorem me_callH0 (h : Has X.prog X.w X.K X.mg X.base x st ps lvl modes F) (hr : Room lvl X.A) (hg : Gl X x) (hdb : (x == ("__debug__" : Str)) = false := by decide) : ME X (.Call (.Name x p) [] [] pos) (mCall modes F aN) := by
  obtain ⟨f, fd, hm, F1, hb, Fn⟩ := h
  exact (pe_call0 Fn hr hg hm F1.kp hb .nil pass0 hdb).weak fun σ H Q h => by
    have q := tE_call h
    obtain ⟨C, Z, m, ps, m', S, e, k⟩ := q
    cases e
    exact k [] H Z .refl S .nil
/-- one rule or the other -/
def orE (f g : EF) : EF := fun m => match f m with
  | some r => some r
  | none => g m
theorem me_or2 {e : Expr} {f g : EF} (hf : ME X e f) (hg : ME X e g) : ME X e (orE f g) := ⟨fun pins s σ H Q I ⟨C, Z, m, p, m', S, e, k⟩ => by
  unfold orE at e
  split at e
  · rename_i r er
    cases e
    exact hf.run pins s σ H Q I ⟨C, Z, m, p, m', S, er, k⟩
  · exact hg.run pins s σ H Q I ⟨C, Z, m, p, m', S, e, k⟩⟩
def orG (f g : GF) : GF := fun d m => match f d m with
  | some r => some r
  | none => g d m
theorem mg_or2 {tg : Expr} {ts : List Nat} {f g : GF} (hf : MG X tg ts f) (hg : MG X tg ts g) : MG X tg ts (orG f g) := ⟨fun pins s σ H v u Q I rv ⟨C, Z, m, d, m', S, r, e, k⟩ => by
  unfold orG at e
  split at e
  · rename_i r' er
    cases e
    exact hf.run pins s σ H v u Q I rv ⟨C, Z, m, d, m', S, r, er, k⟩
  · exact hg.run pins s σ H v u Q I rv ⟨C, Z, m, d, m', S, r, e, k⟩⟩
def orS (f g : SF) : SF := fun m => match f m with
  | some r => some r
  | none => g m
theorem ms_or2 {st : Stmt} {f g : SF} (hf : MSt X st f) (hg : MSt X st g) : MSt X st (orS f g) := ⟨fun pins s σ H D I ⟨C, Z, m, fl, m', S, e, k⟩ => by
  unfold orS at e
  split at e
  · rename_i r' er
    cases e
    exact hf.run pins s σ H D I ⟨C, Z, m, fl, m', S, er, k⟩
  · exact hg.run pins s σ H D I ⟨C, Z, m, fl, m', S, e, k⟩⟩
/-- a name whose object of one's own is given away -/
def mVF (i : Nat) : EF := fun m => match sl m i with
  | some (.shr, d) => some (.val d, m)
  | some (.own, d) => some (.val d, m.set i (some (.shr, d)))
  | _ => none
theorem me_vf {e : Expr} {i : Nat} (h : PE X e (tVar i)) : ME X e (mVF i) := h.weak fun σ H Q ⟨C, Z, m, p, m', S, e, q⟩ => by
  unfold mVF at e
  split at e
  · rename_i d em
    cases e
    obtain ⟨v, h1, h2⟩ := S.shr i d (sl_get em)
    exact ⟨v, h1, q _ _ _ .refl S h2⟩
  · rename_i d em
    cases e
    obtain ⟨a, h1, h2, h3⟩ := S.freeze (sl_get em)
    exact ⟨_, h1, q _ _ _ .sub h2 h3⟩
  · cases e
end
end VL

set_option Elab.async false
set_option linter.all false
set_option maxRecDepth 100000
set_option autoImplicit false
/-! The value layer, part 19: how the functions on data are reckoned. -/
namespace VL
open PySem PySem.Spec L2
section
variable {f g body : SF} {t : TF} {m m1 m2 m3 : MS} {p : P} {r : Option (Fl × MS)} {b : Bool} {e : EF} {d : D}
theorem seq_nx (h : f m = some (.nx, m1)) (k : g m1 = r) : sSeq f g m = r := by unfold sSeq; rw [h]; exact k
theorem seq_rt (h : f m = some (.rt p, m1)) : sSeq f g m = some (.rt p, m1) := by unfold sSeq; rw [h]
theorem if_t (h : t m = some (true, m1)) (k : f m1 = r) : sIf t f g m = r := by unfold sIf; rw [h]; exact k
theorem if_f (h : t m = some (false, m1)) (k : g m1 = r) : sIf t f g m = r := by unfold sIf; rw [h]; exact k
theorem if_b (h : t m = some (b, m1)) (k1 : b = true → f m1 = r) (k2 : b = false → g m1 = r) : sIf t f g m = r := by
  cases b with
  | true => exact if_t h (k1 rfl)
  | false => exact if_f h (k2 rfl)
theorem ret_val (h : e m = some (.val d, m1)) : sRet e m = some (.rt (.val d), m1) := by unfold sRet; rw [h]; rfl
theorem ret_fresh (h : e m = some (.fresh d, m1)) : sRet e m = some (.rt (.fresh d), m1) := by unfold sRet; rw [h]; rfl
theorem def_rt {modes : List Bool} {n : Nat} {ds rs : List D} (hl : ds.length = modes.length) (h : g (entry modes ds n) = some (.rt p, m1)) (ho : outs modes 0 m1 = some rs) : defF modes n g ds = some (p, rs) := by
  unfold defF; rw [if_pos hl, h]; dsimp only; rw [ho]
theorem call_run {modes : List Bool} {F : DF} {fs : AF} {ps : List P} {ds rs : List D} {q : P} (h1 : fs m = some (ps, m1)) (h2 : argsM modes ps m1 = some ds) (h3 : F ds = some (q, rs)) (g1 : (distinct (refIx modes ps) && ((borIx m1 modes ps).all fun i => !(refIx modes ps).contains i)) = true)
    (g2 : (((borIx m1 modes ps).isEmpty || noLstP q) && (rs.all leafD || ((borIx m1 modes ps).isEmpty && isValP q))) = true) (h4 : setCont m1 (refIx modes ps) rs = some m2) : mCall modes F fs m = some (q, m2) := by
  unfold mCall; rw [h1]; dsimp only; rw [h2]; dsimp only; rw [if_pos g1, h3]; dsimp only; rw [if_pos g2, h4]
theorem for_run {it : IF} {tg : GF} {ds : List D} {bk : Option Nat} (hi : it m = some (ds, m1, bk)) (hl : forL tg body ds m1 = some (.nx, m2)) (hu : unlockM m2 bk = some m3) : sFor it tg body m = some (.nx, m3) := by
  unfold sFor; rw [hi]; dsimp only; rw [hl]; dsimp only; rw [hu]
theorem for_rt {it : IF} {tg : GF} {ds : List D} {bk : Option Nat} (hi : it m = some (ds, m1, bk)) (hl : forL tg body ds m1 = some (.rt p, m2)) : sFor it tg body m = some (.rt p, m2) := by
  unfold sFor; rw [hi]; dsimp only; rw [hl]
/-- a walk by an invariant -/
theorem forL_inv {α σ : Type} {tg : GF} (enc : α → D) (I : σ → MS → Prop) (step : σ → α → σ) : ∀ {xs : List α} {s : σ} {m : MS}, (∀ s x m, x ∈ xs → I s m → ∃ m1 m2 fl, tg (enc x) m = some m1 ∧ body m1 = some (fl, m2) ∧ (fl = .nx ∨ fl = .ct) ∧ I (step s x) m2) → I s m →
    ∃ m', forL tg body (xs.map enc) m = some (.nx, m') ∧ I (xs.foldl step s) m'
  | [], s, m, _, h => ⟨m, rfl, h⟩
  | x :: xs, s, m, hs, h => by
    obtain ⟨m1, m2, fl, h1, h2, h3, h4⟩ := hs s x m List.mem_cons_self h
    obtain ⟨m', h5, h6⟩ := forL_inv enc I step (xs := xs) (fun s x m hx => hs s x m (List.mem_cons_of_mem _ hx)) h4
    refine ⟨m', ?_, h6⟩
    rw [List.map_cons]
    unfold forL
    rw [h1]
    dsimp only
    rw [h2]
    rcases h3 with rfl | rfl
    · exact h5
    · exact h5
/-- a comprehension: each turn alone -/
theorem lcL_inv {α σ : Type} {vs : List Nat} {tg : GF} {tt : TF} {el : EF} (enc : α → D) (I : σ → List D → MS → Prop) (step : σ → α → σ) : ∀ {xs : List α} {s : σ} {m : MS} {acc : List D},
    (∀ s x m acc, x ∈ xs → I s acc m → (∃ m1 m2 m3 m4 p d, tg (enc x) m = some m1 ∧ tt m1 = some (true, m2) ∧ el m2 = some (p, m3) ∧ force p m3 = some (d, m4) ∧ okWipe m4 vs = true ∧ acc.length < sizeLine ∧ I (step s x) (acc ++ [d]) (wipeM m4 vs)) ∨
      (∃ m1 m2, tg (enc x) m = some m1 ∧ tt m1 = some (false, m2) ∧ okWipe m2 vs = true ∧ I (step s x) acc (wipeM m2 vs))) → I s acc m →
    ∃ acc' m', lcL vs tg tt el (xs.map enc) m acc = some (acc', m') ∧ I (xs.foldl step s) acc' m'
  | [], s, m, acc, _, h => ⟨acc, m, rfl, h⟩
  | x :: xs, s, m, acc, hs, h => by
    have ih := fun {s : σ} {m : MS} {acc : List D} (h : I s acc m) => lcL_inv enc I step (xs := xs) (s := s) (m := m) (acc := acc) (fun s x m acc hx => hs s x m acc (List.mem_cons_of_mem _ hx)) h
    rw [List.map_cons]
    unfold lcL
    rcases hs s x m acc List.mem_cons_self h with ⟨m1, m2, m3, m4, p, d, h1, h2, h3, h4, h5, h6, h7⟩ | ⟨m1, m2, h1, h2, h3, h4⟩
    · obtain ⟨acc', m', q1, q2⟩ := ih h7
      refine ⟨acc', m', ?_, q2⟩
      rw [h1]; dsimp only; rw [h2]; dsimp only; rw [h3]; dsimp only; rw [h4]; dsimp only
      rw [if_pos (by rw [h5, decide_eq_true h6]; rfl)]
      exact q1
    · obtain ⟨acc', m', q1, q2⟩ := ih h4
      refine ⟨acc', m', ?_, q2⟩
      rw [h1]; dsimp only; rw [h2]; dsimp only
      rw [if_pos h3]
      exact q1
theorem lc_run {vs : List Nat} {it : IF} {tg : GF} {tt : TF} {el : EF} {ds acc : List D} {bk : Option Nat} (hi : it m = some (ds, m1, bk)) (ok1 : okWipe m1 vs = true) (hl : lcL vs tg tt el ds (wipeM m1 vs) [] = some (acc, m2)) (hu : unlockM (restM m1 m2 vs) bk = some m3) : mLc vs it tg tt el m = some (.fresh (.lst acc), m3) := by
  unfold mLc; rw [hi]; dsimp only; rw [if_pos ok1, hl]; dsimp only; rw [hu]
/-- a comprehension that leaves the state -/
theorem lcL_map {α : Type} {vs : List Nat} {tg : GF} {tt : TF} {el : EF} (enc : α → D) (keep : α → Bool) (out : α → D) {M : MS} : ∀ {xs : List α} {acc : List D},
    (∀ x, x ∈ xs → (keep x = true → ∃ m1 m2 m3 m4 p, tg (enc x) M = some m1 ∧ tt m1 = some (true, m2) ∧ el m2 = some (p, m3) ∧ force p m3 = some (out x, m4) ∧ okWipe m4 vs = true ∧ wipeM m4 vs = M) ∧
      (keep x = false → ∃ m1 m2, tg (enc x) M = some m1 ∧ tt m1 = some (false, m2) ∧ okWipe m2 vs = true ∧ wipeM m2 vs = M)) → acc.length + xs.length ≤ sizeLine →
    lcL vs tg tt el (xs.map enc) M acc = some (acc ++ (xs.filter keep).map out, M)
  | [], acc, _, _ => by
    show some (acc, M) = _
    simp
  | x :: xs, acc, hs, hz => by
    rw [List.map_cons]
    unfold lcL
    rw [List.length_cons] at hz
    have hx := hs x List.mem_cons_self
    cases hk : keep x with
    | true =>
      obtain ⟨m1, m2, m3, m4, p, h1, h2, h3, h4, h5, h6⟩ := hx.1 hk
      rw [h1]; dsimp only; rw [h2]; dsimp only; rw [h3]; dsimp only; rw [h4]; dsimp only
      rw [if_pos (by rw [h5, decide_eq_true (by omega)]; rfl), h6]
      rw [lcL_map enc keep out (fun x hx => hs x (List.mem_cons_of_mem _ hx)) (by simp; omega)]
      simp [hk]
    | false =>
      obtain ⟨m1, m2, h1, h2, h3, h4⟩ := hx.2 hk
      rw [h1]; dsimp only; rw [h2]; dsimp only
      rw [if_pos h3, h4]
      rw [lcL_map enc keep out (fun x hx => hs x (List.mem_cons_of_mem _ hx)) (by omega)]
      simp [hk]

/-! ### expressions -/
theorem m2_run {g : D → D → Option P} {fa fb : EF} {p q r : P} {x y : D} (ha : fa m = some (p, m1)) (hb : fb m1 = some (q, m2)) (hx : rd p m2 = some x) (hy : rd q m2 = some y) (hg : g x y = some r) : VL.m2 g fa fb m = some (r, m2) := by
  unfold VL.m2; rw [ha]; dsimp only; rw [hb]; dsimp only; rw [hx, hy]; dsimp only; rw [hg]
theorem m1_run {g : D → Option P} {fa : EF} {p r : P} {x : D} (ha : fa m = some (p, m1)) (hx : rd p m1 = some x) (hg : g x = some r) : VL.m1 g fa m = some (r, m1) := by
  unfold VL.m1; rw [ha]; dsimp only; rw [hx]; dsimp only; rw [hg]
theorem mn_run {g : List D → Option P} {fa : AF} {ps : List P} {r : P} {xs : List D} (ha : fa m = some (ps, m1)) (hx : rds ps m1 = some xs) (hg : g xs = some r) : mn g fa m = some (r, m1) := by
  unfold mn; rw [ha]; dsimp only; rw [hx]; dsimp only; rw [hg]
theorem aC_run {f : EF} {fs : AF} {p : P} {ps : List P} (h : f m = some (p, m1)) (hs : fs m1 = some (ps, m2)) : aC f fs m = some (p :: ps, m2) := by
  unfold aC; rw [h]; dsimp only; rw [hs]
theorem tOf_run {f : EF} {b : Bool} (h : f m = some (.val (.bl b), m1)) : tOf f m = some (b, m1) := by unfold tOf; rw [h]
theorem set_run {i : Nat} {ow : Bool} {f : EF} {p : P} (h : f m = some (p, m1)) (h2 : putIn i ow p m1 = some m2) : sSet i ow f m = some (.nx, m2) := by unfold sSet; rw [h]; dsimp only; rw [h2]
theorem asg_run {tg : GF} {f : EF} {p : P} {d : D} (h : f m = some (p, m1)) (h2 : force p m1 = some (d, m2)) (h3 : tg d m2 = some m3) : sAsg tg f m = some (.nx, m3) := by unfold sAsg; rw [h]; dsimp only; rw [h2]; dsimp only; rw [h3]
theorem expr_run {f : EF} {p : P} (h : f m = some (p, m1)) : sExpr f m = some (.nx, m1) := by unfold sExpr; rw [h]
theorem tup_run {fs : AF} {ps : List P} {ds : List D} (h : fs m = some (ps, m1)) (h2 : forces ps m1 = some (ds, m2)) (hz : ds.length ≤ sizeLine) : mTup fs m = some (.val (.tup ds), m2) := by
  unfold mTup; rw [h]; dsimp only; rw [h2]; dsimp only; rw [if_pos hz]
theorem lst_run {fs : AF} {ps : List P} {ds : List D} (h : fs m = some (ps, m1)) (h2 : forces ps m1 = some (ds, m2)) (hz : ds.length ≤ sizeLine) : mLst fs m = some (.fresh (.lst ds), m2) := by
  unfold mLst; rw [h]; dsimp only; rw [h2]; dsimp only; rw [if_pos hz]
theorem qAnd_t {f g : TF} {b : Bool} (h : f m = some (true, m1)) (k : g m1 = some (b, m2)) : qAnd f g m = some (b, m2) := by unfold qAnd; rw [h]; exact k
theorem qAnd_f {f g : TF} (h : f m = some (false, m1)) : qAnd f g m = some (false, m1) := by unfold qAnd; rw [h]
theorem qOr_t {f g : TF} (h : f m = some (true, m1)) : qOr f g m = some (true, m1) := by unfold qOr; rw [h]
theorem qOr_f {f g : TF} {b : Bool} (h : f m = some (false, m1)) (k : g m1 = some (b, m2)) : qOr f g m = some (b, m2) := by unfold qOr; rw [h]; exact k
theorem qNot_run {f : TF} {b : Bool} (h : f m = some (b, m1)) : qNot f m = some (!b, m1) := by unfold qNot; rw [h]
theorem w_run {T : String} {i : Nat} {g : D → List D → Option (D × D)} {fs : AF} {ps : List P} {ds : List D} {tg tg2 : Tag} {d0 d d' e : D} (h0 : wrt i m = some (tg, d0)) (hk : kindB T d0 = true) (h1 : fs m = some (ps, m1)) (h2 : forces ps m1 = some (ds, m2)) (h3 : wrt i m2 = some (tg2, d)) (h4 : g d ds = some (e, d')) (h5 : m2.set i (some (tg2, d')) = m3) :
    mW T i g fs m = some (.val e, m3) := by
  unfold mW; rw [h0]; dsimp only; rw [if_pos hk, h1]; dsimp only; rw [h2]; dsimp only; unfold wrFin; rw [h3]; dsimp only; rw [h4, ← h5]
theorem w0_run {T : String} {i : Nat} {g : D → List D → Option (D × D)} {tg : Tag} {d0 d' e : D} (h0 : wrt i m = some (tg, d0)) (hk : kindB T d0 = true) (h4 : g d0 [] = some (e, d')) (h5 : m.set i (some (tg, d')) = m3) : mW0 T i g m = some (.val e, m3) := by
  unfold mW0; rw [h0]; dsimp only; rw [if_pos hk]; unfold wrFin; rw [h0]; dsimp only; rw [h4, ← h5]
theorem wPop_snoc (ds : List D) (d : D) : wPop (.lst (ds ++ [d])) [] = some (d, .lst ds) := by
  show (match (ds ++ [d])[(ds ++ [d]).length - 1]? with
    | some x => some (x, D.lst (ds ++ [d]).dropLast)
    | none => none) = _
  have : (ds ++ [d])[(ds ++ [d]).length - 1]? = some d := by simp
  rw [this]
  simp
theorem wAppend_run {ds : List D} {d : D} (h : ds.length < sizeLine) : wAppend (.lst ds) [d] = some (.non, .lst (ds ++ [d])) := if_pos h
theorem mIf_t {t : TF} {fa fb : EF} {r : Option (P × MS)} (h : t m = some (true, m1)) (k : fa m1 = r) : mIf t fa fb m = r := by unfold mIf; rw [h]; exact k
theorem mIf_f {t : TF} {fa fb : EF} {r : Option (P × MS)} (h : t m = some (false, m1)) (k : fb m1 = r) : mIf t fa fb m = r := by unfold mIf; rw [h]; exact k
/-- .. each item taken -/
theorem lcL_all {α : Type} {vs : List Nat} {tg : GF} {tt : TF} {el : EF} (enc : α → D) (out : α → D) {M : MS} {xs : List α} {acc : List D}
    (hs : ∀ x, x ∈ xs → ∃ m1 m2 m3 m4 p, tg (enc x) M = some m1 ∧ tt m1 = some (true, m2) ∧ el m2 = some (p, m3) ∧ force p m3 = some (out x, m4) ∧ okWipe m4 vs = true ∧ wipeM m4 vs = M) (hz : acc.length + xs.length ≤ sizeLine) :
    lcL vs tg tt el (xs.map enc) M acc = some (acc ++ xs.map out, M) := by
  rw [lcL_map enc (fun _ => true) out (fun x hx => ⟨fun _ => hs x hx, fun q => by cases q⟩) hz, List.filter_eq_self.mpr fun _ _ => rfl]
/-- a walk by an invariant that counts -/
theorem forL_at {α : Type} {tg : GF} (enc : α → D) (I : Nat → MS → Prop) : ∀ {xs : List α} {k : Nat} {m : MS}, (∀ i x m, xs[i]? = some x → I (k + i) m → ∃ m1 m2 fl, tg (enc x) m = some m1 ∧ body m1 = some (fl, m2) ∧ (fl = .nx ∨ fl = .ct) ∧ I (k + i + 1) m2) → I k m →
    ∃ m', forL tg body (xs.map enc) m = some (.nx, m') ∧ I (k + xs.length) m'
  | [], k, m, _, h => ⟨m, rfl, h⟩
  | x :: xs, k, m, hs, h => by
    obtain ⟨m1, m2, fl, h1, h2, h3, h4⟩ := hs 0 x m rfl h
    obtain ⟨m', h5, h6⟩ := forL_at enc I (xs := xs) (k := k + 1) (m := m2) (fun i y m hy hI => by
      have := hs (i + 1) y m (by simpa using hy) (by rw [show k + (i + 1) = k + 1 + i by omega]; exact hI)
      rw [show k + (i + 1) + 1 = k + 1 + i + 1 by omega] at this
      exact this) h4
    refine ⟨m', ?_, by rw [List.length_cons, show k + (xs.length + 1) = k + 1 + xs.length by omega]; exact h6⟩
    rw [List.map_cons]
    unfold forL
    rw [h1]
    dsimp only
    rw [h2]
    rcases h3 with rfl | rfl
    · exact h5
    · exact h5
theorem forL_range {tg : GF} (I : Nat → MS → Prop) {n : Nat} {m : MS} (h : ∀ i m, i < n → I i m → ∃ m1 m2 fl, tg (.int (i : Nat)) m = some m1 ∧ body m1 = some (fl, m2) ∧ (fl = .nx ∨ fl = .ct) ∧ I (i + 1) m2) (h0 : I 0 m) :
    ∃ m', forL tg body ((List.range n).map fun (i : Nat) => D.int (i : Nat)) m = some (.nx, m') ∧ I n m' := by
  obtain ⟨m', h1, h2⟩ := forL_at (tg := tg) (body := body) (fun (i : Nat) => D.int (i : Nat)) I (xs := List.range n) (k := 0) (m := m) (fun i x m hx hI => by
    have hi : i < n := by have := lt_of_get hx; simpa using this
    rw [List.getElem?_range hi] at hx
    cases hx
    rw [Nat.zero_add] at hI ⊢
    exact h i m hi hI) h0
  rw [Nat.zero_add, List.length_range] at h2
  exact ⟨m', h1, h2⟩
end
@[simp] theorem mulFit_l {i j : Int} (h1 : -18446744073709551616 < i) (h2 : i < 18446744073709551616) : mulFit i j = true := by
  unfold mulFit
  rw [decide_eq_true (show -(2 ^ 64) < i from h1), decide_eq_true (show i < 2 ^ 64 from h2)]
  rfl
@[simp high] theorem mulFit_r {i j : Int} (h1 : -18446744073709551616 < j) (h2 : j < 18446744073709551616) : mulFit i j = true := by
  unfold mulFit
  rw [decide_eq_true (show -(2 ^ 64) < j from h1), decide_eq_true (show j < 2 ^ 64 from h2)]
  simp
theorem sorted_run {ds : List D} (h : (likeD ds && (ds.all tupD || ds.all notTupD)) = true) : cSorted [.lst ds] = some (.fresh (.lst (ds.mergeSort dLeD))) := if_pos h
theorem dLe_int (x y : Int) : dLeD (.int x) (.int y) = decide (x ≤ y) := by
  show (!PySem.W.dataLt (.int y) (.int x)) = _
  rw [PySem.W.dataLt_int, PySem.W.not_lt_int]
theorem dLt_int (x y : Int) : dLtD (.int x) (.int y) = decide (x < y) := PySem.W.dataLt_int x y
theorem dLe_str (x y : Str) : dLeD (.str x) (.str y) = decide (x.cps.toList ≤ y.cps.toList) := by
  show (!PySem.W.dataLt (.str y) (.str x)) = _
  rw [PySem.W.dataLt_str, PySem.W.not_lt_str]
theorem mul_run {i j : Int} (h : mulFit i j = true) : dMul (.int i) (.int j) = some (.val (.int (i * j))) := if_pos h
theorem skip_if {t : TF} {f g : SF} {m m1 : MS} {r : Option (Fl × MS)} (h : t m = some (false, m1)) (k : g m1 = r) : sSeq (sIf t f sNil) g m = r := seq_nx (if_f h rfl) k
/-- a comprehension by an invariant that counts -/
theorem lcL_at {α : Type} {vs : List Nat} {tg : GF} {tt : TF} {el : EF} (enc : α → D) (I : Nat → List D → MS → Prop) : ∀ {xs : List α} {k : Nat} {m : MS} {acc : List D},
    (∀ i x m acc, xs[i]? = some x → I (k + i) acc m → ∃ m1 m2 m3 m4 p d, tg (enc x) m = some m1 ∧ tt m1 = some (true, m2) ∧ el m2 = some (p, m3) ∧ force p m3 = some (d, m4) ∧ okWipe m4 vs = true ∧ acc.length < sizeLine ∧ I (k + i + 1) (acc ++ [d]) (wipeM m4 vs)) → I k acc m →
    ∃ acc' m', lcL vs tg tt el (xs.map enc) m acc = some (acc', m') ∧ I (k + xs.length) acc' m'
  | [], k, m, acc, _, h => ⟨acc, m, rfl, h⟩
  | x :: xs, k, m, acc, hs, h => by
    obtain ⟨m1, m2, m3, m4, p, d, h1, h2, h3, h4, h5, h6, h7⟩ := hs 0 x m acc rfl h
    obtain ⟨acc', m', q1, q2⟩ := lcL_at enc I (xs := xs) (k := k + 1) (m := wipeM m4 vs) (acc := acc ++ [d]) (fun i y m acc hy hI => by
      have := hs (i + 1) y m acc (by simpa using hy) (by rw [show k + (i + 1) = k + 1 + i by omega]; exact hI)
      rw [show k + (i + 1) + 1 = k + 1 + i + 1 by omega] at this
      exact this) h7
    refine ⟨acc', m', ?_, by rw [List.length_cons, show k + (xs.length + 1) = k + 1 + xs.length by omega]; exact q2⟩
    rw [List.map_cons]
    unfold lcL
    rw [h1]; dsimp only; rw [h2]; dsimp only; rw [h3]; dsimp only; rw [h4]; dsimp only
    rw [if_pos (by rw [h5, decide_eq_true h6]; rfl)]
    exact q1
theorem lcL_range {vs : List Nat} {tg : GF} {tt : TF} {el : EF} (I : Nat → List D → MS → Prop) {n : Nat} {m : MS} {acc : List D}
    (h : ∀ i m acc, i < n → I i acc m → ∃ m1 m2 m3 m4 p d, tg (.int (i : Nat)) m = some m1 ∧ tt m1 = some (true, m2) ∧ el m2 = some (p, m3) ∧ force p m3 = some (d, m4) ∧ okWipe m4 vs = true ∧ acc.length < sizeLine ∧ I (i + 1) (acc ++ [d]) (wipeM m4 vs)) (h0 : I 0 acc m) :
    ∃ acc' m', lcL vs tg tt el ((List.range n).map fun (i : Nat) => D.int (i : Nat)) m acc = some (acc', m') ∧ I n acc' m' := by
  obtain ⟨acc', m', h1, h2⟩ := lcL_at (vs := vs) (tg := tg) (tt := tt) (el := el) (fun (i : Nat) => D.int (i : Nat)) I (xs := List.range n) (k := 0) (m := m) (acc := acc) (fun i x m acc hx hI => by
    have hi : i < n := by have := lt_of_get hx; simpa using this
    rw [List.getElem?_range hi] at hx
    cases hx
    rw [Nat.zero_add] at hI ⊢
    exact h i m acc hi hI) h0
  rw [Nat.zero_add, List.length_range] at h2
  exact ⟨acc', m', h1, h2⟩
theorem wPopAt_run {ds : List D} {j : Nat} {d : D} (h : ds[j]? = some d) (hj : j < 2 ^ 60) : wPopAt (.lst ds) [.int (j : Nat)] = some (d, .lst (ds.eraseIdx j)) := by
  have hl := lt_of_get h
  unfold wPopAt
  dsimp only
  rw [if_pos ⟨by omega, by omega⟩, seqIndex_of (by omega) (by omega), Int.toNat_natCast]
  dsimp only
  rw [h]
theorem aN_run {m : MS} : aN m = some ([], m) := rfl
end VL

set_option Elab.async false
set_option linter.all false
set_option maxRecDepth 100000
set_option autoImplicit false
/-! The value layer, part 20: what simp reckons with (printed by genev.py). -/
namespace VL
open PySem PySem.Spec L2
@[simp] theorem ev_mC (d : D) (m : MS) : VL.mC d m = (some (.val d, m)) := rfl
@[simp] theorem ev_mV (i : Nat) (m : MS) : VL.mV i m = (match sl m i with
  | some (.shr, d) => some (.val d, m)
  | some (_, _) => some (.bor i, m)
  | none => none) := rfl
@[simp] theorem ev_m2 (g : D → D → Option P) (fa fb : EF) (m : MS) : VL.m2 g fa fb m = (  match fa m with
  | some (p, m1) => match fb m1 with
    | some (q, m2) => match rd p m2, rd q m2 with
      | some x, some y => match g x y with
        | some r => some (r, m2)
        | none => none
      | _, _ => none
    | none => none
  | none => none) := rfl
@[simp] theorem ev_m1 (g : D → Option P) (fa : EF) (m : MS) : VL.m1 g fa m = (  match fa m with
  | some (p, m1) => match rd p m1 with
    | some x => match g x with
      | some r => some (r, m1)
      | none => none
    | none => none
  | none => none) := rfl
@[simp] theorem ev_mn (g : List D → Option P) (fa : AF) (m : MS) : VL.mn g fa m = (  match fa m with
  | some (ps, m1) => match rds ps m1 with
    | some xs => match g xs with
      | some r => some (r, m1)
      | none => none
    | none => none
  | none => none) := rfl
@[simp] theorem ev_aN (m : MS) : VL.aN  m = (some ([], m)) := rfl
@[simp] theorem ev_aC (f : EF) (fs : AF) (m : MS) : VL.aC f fs m = (  match f m with
  | some (p, m1) => match fs m1 with
    | some (ps, m2) => some (p :: ps, m2)
    | none => none
  | none => none) := rfl
@[simp] theorem ev_tOf (f : EF) (m : MS) : VL.tOf f m = (match f m with
  | some (.val (.bl b), m') => some (b, m')
  | _ => none) := rfl
@[simp] theorem ev_bAnd (fa fb : EF) (m : MS) : VL.bAnd fa fb m = (match fa m with
  | some (.val (.bl true), m1) => fb m1
  | some (.val (.bl false), m1) => some (.val (.bl false), m1)
  | _ => none) := rfl
@[simp] theorem ev_bOr (fa fb : EF) (m : MS) : VL.bOr fa fb m = (match fa m with
  | some (.val (.bl true), m1) => some (.val (.bl true), m1)
  | some (.val (.bl false), m1) => fb m1
  | _ => none) := rfl
@[simp] theorem ev_bNot (fa : EF) (m : MS) : VL.bNot fa m = (match fa m with
  | some (.val (.bl b), m1) => some (.val (.bl (!b)), m1)
  | _ => none) := rfl
@[simp] theorem ev_qAnd (f g : TF) (m : MS) : VL.qAnd f g m = (match f m with
  | some (true, m1) => g m1
  | some (false, m1) => some (false, m1)
  | none => none) := rfl
@[simp] theorem ev_qOr (f g : TF) (m : MS) : VL.qOr f g m = (match f m with
  | some (true, m1) => some (true, m1)
  | some (false, m1) => g m1
  | none => none) := rfl
@[simp] theorem ev_qNot (f : TF) (m : MS) : VL.qNot f m = (match f m with
  | some (b, m1) => some (!b, m1)
  | none => none) := rfl
@[simp] theorem ev_mIf (t : TF) (fa fb : EF) (m : MS) : VL.mIf t fa fb m = (match t m with
  | some (true, m1) => fa m1
  | some (false, m1) => fb m1
  | none => none) := rfl
@[simp] theorem ev_mChain (g h : D → D → Option P) (fa fb fc : EF) (m : MS) : VL.mChain g h fa fb fc m = (  match fa m with
  | some (p, n1) => match fb n1 with
    | some (q, n2) => match rd p n2, rd q n2 with
      | some x, some y => match g x y with
        | some (.val (.bl true)) => match fc n2 with
          | some (r, n3) => match rd q n3, rd r n3 with
            | some y', some z => match h y' z with
              | some o => some (o, n3)
              | none => none
            | _, _ => none
          | none => none
        | some (.val (.bl false)) => some (.val (.bl false), n2)
        | _ => none
      | _, _ => none
    | none => none
  | none => none) := rfl
@[simp] theorem ev_oN (m : MS) : VL.oN  m = (some (none, m)) := rfl
@[simp] theorem ev_oS (f : EF) (m : MS) : VL.oS f m = (match f m with
  | some (.val (.int i), m1) => some (some i, m1)
  | _ => none) := rfl
@[simp] theorem ev_mCut (fe : EF) (fl fh : OF) (m : MS) : VL.mCut fe fl fh m = (match fe m with
  | some (p, n1) => match fl n1 with
    | some (lo, n2) => match fh n2 with
      | some (hi, n3) => match rd p n3 with
        | some x => match dCut lo hi x with
          | some r => some (r, n3)
          | none => none
        | none => none
      | none => none
    | none => none
  | none => none) := rfl
@[simp] theorem ev_mTup (fs : AF) (m : MS) : VL.mTup fs m = (match fs m with
  | some (ps, m1) => match forces ps m1 with
    | some (ds, m2) => if ds.length ≤ sizeLine then some (.val (.tup ds), m2) else none
    | none => none
  | none => none) := rfl
@[simp] theorem ev_mLst (fs : AF) (m : MS) : VL.mLst fs m = (match fs m with
  | some (ps, m1) => match forces ps m1 with
    | some (ds, m2) => if ds.length ≤ sizeLine then some (.fresh (.lst ds), m2) else none
    | none => none
  | none => none) := rfl
@[simp] theorem ev_sNil (m : MS) : VL.sNil  m = (some (.nx, m)) := rfl
@[simp] theorem ev_sSeq (f g : SF) (m : MS) : VL.sSeq f g m = (match f m with
  | some (.nx, m1) => g m1
  | r => r) := rfl
@[simp] theorem ev_sPass (m : MS) : VL.sPass  m = (some (.nx, m)) := rfl
@[simp] theorem ev_sBreak (m : MS) : VL.sBreak  m = (some (.bk, m)) := rfl
@[simp] theorem ev_sCont (m : MS) : VL.sCont  m = (some (.ct, m)) := rfl
@[simp] theorem ev_sExpr (f : EF) (m : MS) : VL.sExpr f m = (match f m with
  | some (_, m1) => some (.nx, m1)
  | none => none) := rfl
@[simp] theorem ev_sRet (f : EF) (m : MS) : VL.sRet f m = (match f m with
  | some (p, m1) => match retP p m1 with
    | some q => some (.rt q, m1)
    | none => none
  | none => none) := rfl
@[simp] theorem ev_sRetN (m : MS) : VL.sRetN  m = (some (.rt (.val .non), m)) := rfl
@[simp] theorem ev_sIf (t : TF) (f g : SF) (m : MS) : VL.sIf t f g m = (match t m with
  | some (true, m1) => f m1
  | some (false, m1) => g m1
  | none => none) := rfl
@[simp] theorem ev_sSet (i : Nat) (own : Bool) (f : EF) (m : MS) : VL.sSet i own f m = (match f m with
  | some (p, m1) => match putIn i own p m1 with
    | some m2 => some (.nx, m2)
    | none => none
  | none => none) := rfl
@[simp] theorem ev_gN (i : Nat) (d : D) (m : MS) : VL.gN i d m = (if mayPut m i then some (m.set i (some (.shr, d))) else none) := rfl
@[simp] theorem ev_gsN (ds : List D) (m : MS) : VL.gsN  ds m = (match ds with
  | [] => some m
  | _ => none) := rfl
@[simp] theorem ev_gsC (g : GF) (gs : GsF) (ds : List D) (m : MS) : VL.gsC g gs ds m = (match ds with
  | d :: ds => match g d m with
    | some m1 => gs ds m1
    | none => none
  | [] => none) := rfl
@[simp] theorem ev_gT (n : Nat) (gs : GsF) (d : D) (m : MS) : VL.gT n gs d m = (match d with
  | .tup ds => if ds.length = n then gs ds m else none
  | .lst ds => if ds.length = n then gs ds m else none
  | _ => none) := rfl
@[simp] theorem ev_sAsg (g : GF) (f : EF) (m : MS) : VL.sAsg g f m = (match f m with
  | some (p, m1) => match force p m1 with
    | some (d, m2) => match g d m2 with
      | some m3 => some (.nx, m3)
      | none => none
    | none => none
  | none => none) := rfl
@[simp] theorem ev_iR1 (fs : AF) (m : MS) : VL.iR1 fs m = (match fs m with
  | some ([p], m1) => match rd p m1 with
    | some (.int j) => if -(2 ^ 62) ≤ j ∧ j < 2 ^ 62 then some (rangeD 0 1 j.toNat, m1, none) else none
    | _ => none
  | _ => none) := rfl
@[simp] theorem ev_iR2 (fs : AF) (m : MS) : VL.iR2 fs m = (match fs m with
  | some ([p, q], m1) => match rd p m1, rd q m1 with
    | some (.int i), some (.int j) => if -(2 ^ 62) ≤ i ∧ i < 2 ^ 62 ∧ -(2 ^ 62) ≤ j ∧ j < 2 ^ 62 then some (rangeD i 1 (j - i).toNat, m1, none) else none
    | _, _ => none
  | _ => none) := rfl
@[simp] theorem ev_iSeq (f : EF) (m : MS) : VL.iSeq f m = (match f m with
  | some (.val (.lst ds), m1) => some (ds, m1, none)
  | some (.val (.tup ds), m1) => some (ds, m1, none)
  | some (.val (.frz ds), m1) => some (ds, m1, none)
  | some (.val (.str z), m1) => some (strD z, m1, none)
  | some (.fresh (.lst ds), m1) => some (ds, m1, none)
  | some (.bor i, m1) => match sl m1 i with
    | some (.shr, .lst ds) => some (ds, m1, none)
    | some (.lkO, .lst ds) => some (ds, m1, none)
    | some (.lkB, .lst ds) => some (ds, m1, none)
    | some (.own, .lst ds) => some (ds, m1.set i (some (.lkO, .lst ds)), some i)
    | some (.byr, .lst ds) => some (ds, m1.set i (some (.lkB, .lst ds)), some i)
    | _ => none
  | _ => none) := rfl
@[simp] theorem ev_qYes (m : MS) : VL.qYes  m = (some (true, m)) := rfl
@[simp] theorem ev_mW (T : String) (i : Nat) (g : D → List D → Option (D × D)) (fs : AF) (m : MS) : VL.mW T i g fs m = (match wrt i m with
  | some (_, d0) => if kindB T d0 then (match fs m with
    | some (ps, m1) => match forces ps m1 with
      | some (ds, m2) => wrFin i g ds m2
      | none => none
    | none => none) else none
  | none => none) := rfl
@[simp] theorem ev_mW0 (T : String) (i : Nat) (g : D → List D → Option (D × D)) (m : MS) : VL.mW0 T i g m = (match wrt i m with
  | some (_, d0) => if kindB T d0 then wrFin i g [] m else none
  | none => none) := rfl
@[simp] theorem ev_mM (T : String) (g : D → List D → Option P) (fo : EF) (fs : AF) (m : MS) : VL.mM T g fo fs m = (match fo m with
  | some (p, m1) => match rd p m1 with
    | some d0 => if kindR T d0 then (match fs m1 with
      | some (ps, m2) => match rd p m2, rds ps m2 with
        | some d, some ds => match g d ds with
          | some r => some (r, m2)
          | none => none
        | _, _ => none
      | none => none) else none
    | none => none
  | none => none) := rfl
@[simp] theorem ev_mM0 (T : String) (g : D → List D → Option P) (fo : EF) (m : MS) : VL.mM0 T g fo m = (match fo m with
  | some (p, m1) => match rd p m1 with
    | some d0 => if kindR T d0 then (match g d0 [] with
      | some r => some (r, m1)
      | none => none) else none
    | none => none
  | none => none) := rfl
@[simp] theorem ev_gSubD (i : Nat) (g : D → D → D → Option D) (fi : EF) (dv : D) (m : MS) : VL.gSubD i g fi dv m = (if (wrt i m).isSome then (match fi m with
  | some (p, m1) => match rd p m1, wrt i m1 with
    | some dx, some (t, d) => match g d dx dv with
      | some d' => some (m1.set i (some (t, d')))
      | none => none
    | _, _ => none
  | none => none) else none) := rfl
@[simp] theorem ev_mLr1 (f : EF) (m : MS) : VL.mLr1 f m = (match f m with
  | some (p, m1) => match rd p m1 with
    | some (.int b) => if rgOk 0 b then some (.fresh (.lst (rangeD 0 1 b.toNat)), m1) else none
    | _ => none
  | none => none) := rfl
@[simp] theorem ev_mLr2 (f g : EF) (m : MS) : VL.mLr2 f g m = (match f m with
  | some (p, m1) => match g m1 with
    | some (q, m2) => match rd p m2, rd q m2 with
      | some (.int a), some (.int b) => if rgOk a b then some (.fresh (.lst (rangeD a 1 (b - a).toNat)), m2) else none
      | _, _ => none
    | none => none
  | none => none) := rfl
@[simp] theorem ev_mDct0 (m : MS) : VL.mDct0  m = (some (.fresh (.dct [] []), m)) := rfl
@[simp] theorem ev_mDct1 (fk fv : EF) (m : MS) : VL.mDct1 fk fv m = (match fk m with
  | some (p, m1) => match fv m1 with
    | some (q, m2) => match rd p m2, rd q m2 with
      | some dk, some dv => match keyD dk with
        | some j => match force q m2 with
          | some (d', m3) => some (.fresh (.dct [j] [d']), m3)
          | none => none
        | none => none
      | _, _ => none
    | none => none
  | none => none) := rfl
@[simp] theorem ev_sPar (i j : Nat) (fs : AF) (m : MS) : VL.sPar i j fs m = (match fs m with
  | some (ps, m1) => match forces ps m1 with
    | some ([d, d'], m2) => if mayPut m2 i && mayPut (m2.set i (some (.shr, d))) j then some (.nx, (m2.set i (some (.shr, d))).set j (some (.shr, d'))) else none
    | _ => none
  | none => none) := rfl
@[simp] theorem ev_sAug (i : Nat) (own : Bool) (g : D → D → Option P) (f : EF) (m : MS) : VL.sAug i own g f m = (match sl m i with
  | none => none
  | some _ => match f m with
    | some (p, m1) => match sl m1 i, rd p m1 with
      | some (_, x), some y => match g x y with
        | some r => match putIn i own r m1 with
          | some m2 => some (.nx, m2)
          | none => none
        | none => none
      | _, _ => none
    | none => none) := rfl
@[simp] theorem ev_iW1 (fs : AF) (m : MS) : VL.iW1 fs m = (match fs m with
  | some ([p], m1) => match rd p m1 with
    | some (.int j) => if -(2 ^ 62) ≤ j ∧ j < 2 ^ 62 then some (rangeD 0 1 j.toNat, m1) else none
    | _ => none
  | _ => none) := rfl
@[simp] theorem ev_iW2 (fs : AF) (m : MS) : VL.iW2 fs m = (match fs m with
  | some ([p, q], m1) => match rd p m1, rd q m1 with
    | some (.int i), some (.int j) => if -(2 ^ 62) ≤ i ∧ i < 2 ^ 62 ∧ -(2 ^ 62) ≤ j ∧ j < 2 ^ 62 then some (rangeD i 1 (j - i).toNat, m1) else none
    | _, _ => none
  | _ => none) := rfl
@[simp] theorem ev_iSeqW (f : EF) (m : MS) : VL.iSeqW f m = (match f m with
  | some (.val (.lst ds), m1) => some (ds, m1)
  | some (.val (.tup ds), m1) => some (ds, m1)
  | some (.val (.frz ds), m1) => some (ds, m1)
  | some (.val (.str z), m1) => some (strD z, m1)
  | some (.fresh (.lst ds), m1) => some (ds, m1)
  | _ => none) := rfl
@[simp] theorem ev_sAugX (i : Nat) (g : D → D → Option P) (gs : D → D → D → Option D) (fi fe : EF) (m : MS) : VL.sAugX i g gs fi fe m = (if (wrt i m).isSome then (match fi m with
  | some (p, m1) => match rd p m1, wrt i m1 with
    | some dx, some (_, d0) => match getD2 d0 dx, fe m1 with
      | some x0, some (q, m2) => match rd q m2, rd p m2 with
        | some y, some dx2 => match g x0 y with
          | some (.val z) => match wrt i m2 with
            | some (t, d) => match gs d dx2 z with
              | some d' => some (.nx, m2.set i (some (t, d')))
              | none => none
            | none => none
          | _ => none
        | _, _ => none
      | _, _ => none
    | _, _ => none
  | none => none) else none) := rfl
@[simp] theorem ev_orE (f g : EF) (m : MS) : VL.orE f g m = (match f m with
  | some r => some r
  | none => g m) := rfl
@[simp] theorem ev_orG (f g : GF) (d : D) (m : MS) : VL.orG f g d m = (match f d m with
  | some r => some r
  | none => g d m) := rfl
@[simp] theorem ev_orS (f g : SF) (m : MS) : VL.orS f g m = (match f m with
  | some r => some r
  | none => g m) := rfl
@[simp] theorem ev_mVF (i : Nat) (m : MS) : VL.mVF i m = (match sl m i with
  | some (.shr, d) => some (.val d, m)
  | some (.own, d) => some (.val d, m.set i (some (.shr, d)))
  | _ => none) := rfl

end VL

set_option Elab.async false
set_option linter.all false
set_option maxRecDepth 100000
set_option autoImplicit false
/-! The value layer, part 20: what the laws have in common: draws, comparison, sizes. -/
namespace VL
open PySem PySem.Spec L2
noncomputable def k_draws : SF :=
    (sSeq (sSet 2 true (mLc [8] (iSeq (mV 0)) (gN 8) qYes (mn cInt (aC (mV 8) aN))))
    (sSeq (sIf (tOf (m2 dEqO (mn cLen (aC (mV 2) aN)) (mC (.int 0))))
    (sExpr (mW "list" 2 wAppend (aC (mC (.int 0)) aN)))
    sNil)
    (sSeq (sSet 3 true (mn cList (aC (mV 2) aN)))
    (sSeq (sSet 4 true (mLst aN))
    (sSeq (sFor (iR1 (aC (mV 1) aN)) (gN 5)
    (sSeq (sSet 6 false (m2 dMod (mV 5) (mn cLen (aC (mV 2) aN))))
    (sIf (qAnd (tOf (m2 dGe (m2 dIx (mV 2) (mV 6)) (m2 dPow (mC (.int 10)) (mC (.int 18))))) (tOf (m2 dGt (m2 dIx (mV 3) (mV 6)) (mC (.int 0)))))
    (sSeq (sExpr (mW "list" 4 wAppend (aC (m2 dMod (mn cInt (aC (m2 dIx (mV 3) (mV 6)) aN)) (mC (.int 1000))) aN)))
    (sAsg (gSubD 3 lSet (mV 6)) (m2 dDiv (m2 dIx (mV 3) (mV 6)) (mC (.int 1000)))))
    (sSeq (sSet 7 false (m2 dMod (mn cInt (aC (m2 dAdd (m2 dAdd (m2 dMul (m2 dIx (mV 2) (mV 6)) (mC (.int 48271))) (m2 dMul (mV 5) (mC (.int 69621)))) (mC (.int 11))) aN)) (mC (.int 2147483647))))
    (sExpr (mW "list" 4 wAppend (aC (m2 dMod (mn cInt (aC (m2 dAdd (m2 dAdd (m2 dMul (mV 7) (mV 7)) (m2 dMul (mC (.int 3)) (mV 7))) (mV 5)) aN)) (mC (.int 1000003))) aN)))))))
    (sSeq (sExpr (mW0 "list" 4 wReverse))
    (sRet (mV 4))))))))
noncomputable def c_draws : DF := defF [false, false] 7 k_draws
noncomputable def k_take : SF :=
    (sSeq (sIf (tOf (m2 dEqO (mn cLen (aC (mV 0) aN)) (mC (.int 0))))
    (sRet (mC (.int 0)))
    sNil)
    (sRet (m2 dMod (mn cInt (aC (mW0 "list" 0 wPop) aN)) (mV 1))))
noncomputable def c_take : DF := defF [true, false] 0 k_take
noncomputable def k_same (fr : DF) : SF :=
    (sSeq (sIf (tOf (mn cIsi (aC (mV 1) (aC (mC (.ty "bool")) aN))))
    (sRet (bAnd (mn cIsi (aC (mV 0) (aC (mC (.ty "bool")) aN))) (m2 dEqO (mV 0) (mV 1))))
    sNil)
    (sSeq (sIf (tOf (mn cIsi (aC (mV 1) (aC (mC (.ty "int")) aN))))
    (sRet (bAnd (mn cIsi (aC (mV 0) (aC (mC (.ty "int")) aN))) (bAnd (bNot (mn cIsi (aC (mV 0) (aC (mC (.ty "bool")) aN)))) (m2 dEqO (mV 0) (mV 1)))))
    sNil)
    (sSeq (sIf (tOf (mn cIsi (aC (mV 1) (aC (mC (.ty "str")) aN))))
    (sRet (bAnd (mn cIsi (aC (mV 0) (aC (mC (.ty "str")) aN))) (m2 dEqO (mV 0) (mV 1))))
    sNil)
    (sSeq (sIf (tOf (m2 dIsN (mV 1) (mC .non)))
    (sRet (m2 dIsN (mV 0) (mC .non)))
    sNil)
    (sSeq (sIf (qOr (qNot (tOf (mn cIsi (aC (mV 0) (aC (mC (.ty "tuple")) aN))))) (tOf (m2 dNeO (mn cLen (aC (mV 0) aN)) (mn cLen (aC (mV 1) aN)))))
    (sRet (mC (.bl false)))
    sNil)
    (sSeq (sFor (iR1 (aC (mn cLen (aC (mV 1) aN)) aN)) (gN 2)
    (sIf (qNot (tOf (mCall [false, false] fr (aC (m2 dIx (mV 0) (mV 2)) (aC (m2 dIx (mV 1) (mV 2)) aN)))))
    (sRet (mC (.bl false)))
    sNil))
    (sRet (mC (.bl true)))))))))
noncomputable def c_sameN : Nat → DF
  | 0 => fun _ => none
  | k + 1 => defF [false, false] 1 (k_same (c_sameN k))
noncomputable def c_same : DF := c_sameN 6
noncomputable def k_size : SF :=
    (sSeq (sSet 2 false (mCall [true, false] c_take (aC (mV 0) (aC (mC (.int 4)) aN))))
    (sSeq (sSet 3 false (mCall [true, false] c_take (aC (mV 0) (aC (mC (.int 1000)) aN))))
    (sSeq (sIf (tOf (m2 dEqO (mV 2) (mC (.int 1))))
    (sSet 3 false (m2 dAdd (mV 3) (m2 dMul (m2 dAdd (mC (.int 1)) (mCall [true, false] c_take (aC (mV 0) (aC (mC (.int 1000)) aN)))) (m2 dPow (mC (.int 10)) (mC (.int 15))))))
    sNil)
    (sSeq (sIf (qAnd (tOf (m2 dEqO (mV 2) (mC (.int 2)))) (tOf (m2 dGt (mn cLen (aC (mV 1) aN)) (mC (.int 0)))))
    (sSet 3 false (m2 dAdd (mV 3) (m2 dMod (mn cInt (aC (mn cAbs (aC (mn cInt (aC (m2 dIx (mV 1) (mCall [true, false] c_take (aC (mV 0) (aC (mn cLen (aC (mV 1) aN)) aN)))) aN)) aN)) aN)) (m2 dPow (mC (.int 10)) (mC (.int 60))))))
    sNil)
    (sSeq (sIf (tOf (m2 dEqO (mV 2) (mC (.int 3))))
    (sSet 3 false (m2 dAdd (m2 dMul (mV 3) (mC (.int 1000))) (mCall [true, false] c_take (aC (mV 0) (aC (mC (.int 1000)) aN)))))
    sNil)
    (sRet (mV 3)))))))
noncomputable def c_size : DF := defF [true, false] 2 k_size

/-! ### plain -/
abbrev il' (ns : List Int) : List D := ns.map .int
/-- what _law_take hands back, what is left -/
def takeI (ns : List Int) (m : Int) : Int × List Int := match ns.getLast? with
  | some x => (x % m, ns.dropLast)
  | none => (0, [])
theorem takeI_range {ns : List Int} {m : Int} (h : 0 < m) : 0 ≤ (takeI ns m).1 ∧ (takeI ns m).1 < m := by
  unfold takeI
  split
  · exact ⟨Int.emod_nonneg _ (by omega), Int.emod_lt_of_pos _ h⟩
  · exact ⟨Int.le_refl _, h⟩
theorem map_snoc (ns : List Int) (x : Int) : (ns ++ [x]).map D.int = ns.map D.int ++ [.int x] := by simp
theorem take_ok (ns : List Int) {m : Int} (hm : 0 < m) : c_take [.lst (ns.map .int), .int m] = some (.val (.int (takeI ns m).1), [.lst ((takeI ns m).2.map .int)]) := by
  unfold c_take
  rcases List.eq_nil_or_concat ns with rfl | ⟨as, x, rfl⟩
  · rfl
  · rw [List.concat_eq_append]
    have e : takeI (as ++ [x]) m = (x % m, as) := by simp [takeI]
    rw [e, map_snoc]
    refine def_rt (p := .val (.int (x % m))) (m1 := [some (.byr, .lst (as.map .int)), some (.shr, .int m)]) rfl ?_ rfl
    unfold k_take
    refine seq_nx (m1 := [some (.byr, .lst (as.map .int ++ [.int x])), some (.shr, .int m)]) (if_f (m1 := [some (.byr, .lst (as.map .int ++ [.int x])), some (.shr, .int m)]) ?_ rfl) (ret_val (m2_run (mn_run (aC_run (w0_run rfl rfl (wPop_snoc _ _) rfl) rfl) rfl rfl) rfl rfl rfl ?_))
    · show some (((as.map D.int ++ [D.int x]).length : Int) == 0, _) = _
      have : (((as.map D.int ++ [D.int x]).length : Int) == 0) = false := by simp; omega
      rw [this]; rfl
    · show (if 0 < m then _ else _) = _
      rw [if_pos hm]

/-! ### _law_same -/
mutual
/-- numbers, texts, None, tuples of such -/
def flatB : D → Nat → Bool
  | .non, _ => true
  | .bl _, _ => true
  | .int _, _ => true
  | .str _, _ => true
  | .tup ds, n + 1 => flatBs ds n
  | _, _ => false
def flatBs : List D → Nat → Bool
  | [], _ => true
  | d :: ds, n => flatB d n && flatBs ds n
end
mutual
/-- no tuple too long -/
def sizeD : D → Bool
  | .tup ds => decide (ds.length ≤ 2 ^ 40) && sizeDs ds
  | _ => true
def sizeDs : List D → Bool
  | [] => true
  | d :: ds => sizeD d && sizeDs ds
end
theorem sizeDs_get : ∀ {ds : List D} {i : Nat} {d : D}, sizeDs ds = true → ds[i]? = some d → sizeD d = true
  | [], _, _, _, e => by simp at e
  | d :: ds, 0, _, h, e => by
    rw [sizeDs, Bool.and_eq_true] at h
    simp at e; subst e; exact h.1
  | d :: ds, i + 1, _, h, e => by
    rw [sizeDs, Bool.and_eq_true] at h
    exact sizeDs_get h.2 (by simpa using e)
theorem flatBs_get : ∀ {ds : List D} {n i : Nat} {d : D}, flatBs ds n = true → ds[i]? = some d → flatB d n = true
  | [], _, _, _, _, e => by simp at e
  | d :: ds, n, 0, _, h, e => by
    rw [flatBs, Bool.and_eq_true] at h
    simp at e; subst e; exact h.1
  | d :: ds, n, i + 1, _, h, e => by
    rw [flatBs, Bool.and_eq_true] at h
    exact flatBs_get h.2 (by simpa using e)
theorem ix_tup_run {ds : List D} {i : Nat} {d : D} (h : ds[i]? = some d) : dIx (.tup ds) (.int (i : Nat)) = some (.val d) := by
  show (match atI ds (i : Nat) with | some d => some (P.val d) | none => none) = _
  rw [atI_nat h]
theorem ix_lst_run {ds : List D} {i : Nat} {d : D} (h : ds[i]? = some d) : dIx (.lst ds) (.int (i : Nat)) = some (.val d) := by
  show (match atI ds (i : Nat) with | some d => some (P.val d) | none => none) = _
  rw [atI_nat h]
theorem ix_frz_run {ds : List D} {i : Nat} {d : D} (h : ds[i]? = some d) : dIx (.frz ds) (.int (i : Nat)) = some (.val d) := by
  show (match atI ds (i : Nat) with | some d => some (P.val d) | none => none) = _
  rw [atI_nat h]
theorem range_map (n : Nat) : rangeD 0 1 n = (List.range n).map fun (i : Nat) => D.int (i : Nat) := by
  unfold rangeD
  refine List.map_congr_left fun i _ => ?_
  rw [Int.zero_add, Int.mul_one]
theorem iR1_run {fs : AF} {m m1 : MS} {n : Nat} (h : fs m = some ([.val (.int (n : Nat))], m1)) (hn : n ≤ 2 ^ 40) : iR1 fs m = some ((List.range n).map fun (i : Nat) => D.int (i : Nat), m1, none) := by
  unfold iR1
  rw [h]
  show (if -(2 ^ 62) ≤ (n : Int) ∧ (n : Int) < 2 ^ 62 then some (rangeD 0 1 (n : Int).toNat, m1, none) else none) = _
  rw [if_pos (by omega), Int.toNat_natCast, range_map]
mutual
theorem dOk_mono : ∀ {d : D} {n : Nat}, dOk d n = true → dOk d (n + 1) = true
  | .non, _, _ => rfl
  | .bl _, _, _ => rfl
  | .int _, _, _ => rfl
  | .str _, _, _ => rfl
  | .lst ds, n + 1, h => dOks_mono (ds := ds) (n := n) h
  | .tup ds, n + 1, h => dOks_mono (ds := ds) (n := n) h
theorem dOks_mono : ∀ {ds : List D} {n : Nat}, dOks ds n = true → dOks ds (n + 1) = true
  | [], _, _ => rfl
  | d :: ds, n, h => by
    rw [dOks, Bool.and_eq_true] at h ⊢
    exact ⟨dOk_mono h.1, dOks_mono h.2⟩
end
theorem same_ok : ∀ (k : Nat) (d : D), flatB d k = true → dOk d far = true → sizeD d = true → c_sameN (k + 1) [d, d] = some (.val (.bl true), [])
  | k, .non, _, _, _ => by rfl
  | k, .bl b, _, _, _ => by cases b <;> rfl
  | k, .int i, _, _, _ => by
    show some (P.val (D.bl (i == i)), _) = _
    rw [beq_self_eq_true]
  | k, .str i, _, _, _ => by
    show some (P.val (D.bl (i == i)), _) = _
    rw [beq_self_eq_true]
  | 0, .tup ds, h, _, _ => absurd h Bool.false_ne_true
  | k + 1, .tup ds, h, ho, hz => by
    rw [flatB] at h
    rw [sizeD, Bool.and_eq_true, decide_eq_true_eq] at hz
    have hd : dOks ds far = true := by
      have := ho
      rw [show dOk (.tup ds) far = dOks ds 39 from rfl] at this
      exact dOks_mono this
    have ih : ∀ (i : Nat) (d : D), ds[i]? = some d → c_sameN (k + 1) [d, d] = some (.val (.bl true), []) := fun i d e => same_ok k d (flatBs_get h e) (dOks_mem hd (List.mem_of_getElem? e)) (sizeDs_get hz.2 e)
    have hne : (!((ds.length : Int) == (ds.length : Int))) = false := by rw [beq_self_eq_true]; rfl
    have main : ∃ m', forL (gN 2) (sIf (qNot (tOf (mCall [false, false] (c_sameN (k + 1)) (aC (VL.m2 dIx (mV 0) (mV 2)) (aC (VL.m2 dIx (mV 1) (mV 2)) aN))))) (sRet (mC (.bl false))) sNil) ((List.range ds.length).map fun (i : Nat) => D.int (i : Nat)) [some (.shr, .tup ds), some (.shr, .tup ds), none] = some (.nx, m') ∧ ∃ x, m' = [some (.shr, .tup ds), some (.shr, .tup ds), x] := by
      have q := forL_inv (tg := gN 2) (body := sIf (qNot (tOf (mCall [false, false] (c_sameN (k + 1)) (aC (VL.m2 dIx (mV 0) (mV 2)) (aC (VL.m2 dIx (mV 1) (mV 2)) aN))))) (sRet (mC (.bl false))) sNil) (fun (i : Nat) => D.int (i : Nat)) (fun (_ : Unit) m => (∃ x, m = [some (.shr, .tup ds), some (.shr, .tup ds), some (.shr, x)]) ∨ m = [some (.shr, .tup ds), some (.shr, .tup ds), none]) (fun _ _ => ())
        (xs := List.range ds.length) (s := ()) (m := [some (.shr, .tup ds), some (.shr, .tup ds), none]) (fun s i m hi I => ?_) (.inr rfl)
      · obtain ⟨m', h1, h2⟩ := q
        refine ⟨m', h1, ?_⟩
        rcases h2 with ⟨x, rfl⟩ | rfl <;> exact ⟨_, rfl⟩
      · have hl := List.mem_range.mp hi
        have he : ds[i]? = some ds[i] := List.getElem?_eq_getElem hl
        have step : ∃ m1 m2 fl, gN 2 (D.int (i : Nat)) m = some m1 ∧ sIf (qNot (tOf (mCall [false, false] (c_sameN (k + 1)) (aC (VL.m2 dIx (mV 0) (mV 2)) (aC (VL.m2 dIx (mV 1) (mV 2)) aN))))) (sRet (mC (.bl false))) sNil m1 = some (fl, m2) ∧ (fl = .nx ∨ fl = .ct) ∧ m2 = [some (.shr, .tup ds), some (.shr, .tup ds), some (.shr, D.int (i : Nat))] := by
          refine ⟨[some (.shr, .tup ds), some (.shr, .tup ds), some (.shr, D.int (i : Nat))], _, .nx, ?_, if_f (m1 := [some (.shr, .tup ds), some (.shr, .tup ds), some (.shr, D.int (i : Nat))]) (qNot_run (b := true) (tOf_run (call_run (q := .val (.bl true)) (aC_run (m2_run rfl rfl rfl rfl (ix_tup_run he)) (aC_run (m2_run rfl rfl rfl rfl (ix_tup_run he)) rfl)) rfl (ih i _ he) rfl rfl rfl))) rfl, .inl rfl, rfl⟩
          rcases I with ⟨x, rfl⟩ | rfl <;> rfl
        obtain ⟨m1, m2, fl, h1, h2, h3, h4⟩ := step
        exact ⟨m1, m2, fl, h1, h2, h3, .inl ⟨_, h4⟩⟩
    obtain ⟨m', hl, x, rfl⟩ := main
    refine def_rt (p := .val (.bl true)) (m1 := [some (.shr, .tup ds), some (.shr, .tup ds), x]) rfl ?_ rfl
    unfold k_same
    have skip : ∀ {t : TF} {f g : SF} {r : Option (Fl × MS)}, t [some (.shr, .tup ds), some (.shr, .tup ds), none] = some (false, [some (.shr, .tup ds), some (.shr, .tup ds), none]) → g [some (.shr, .tup ds), some (.shr, .tup ds), none] = r → sSeq (sIf t f sNil) g [some (.shr, .tup ds), some (.shr, .tup ds), none] = r := fun h k => seq_nx (if_f h rfl) k
    refine skip rfl (skip rfl (skip rfl (skip rfl (skip (qOr_f (m1 := [some (.shr, .tup ds), some (.shr, .tup ds), none]) rfl ?_) ?_))))
    · refine tOf_run (m2_run (m1 := [some (.shr, .tup ds), some (.shr, .tup ds), none]) (p := .val (.int ds.length)) (q := .val (.int ds.length)) rfl rfl rfl rfl ?_)
      show some (P.val (D.bl (!((ds.length : Int) == (ds.length : Int))))) = _
      rw [hne]
    · exact seq_nx (for_run (iR1_run (m1 := [some (.shr, .tup ds), some (.shr, .tup ds), none]) rfl hz.1) hl rfl) (ret_val rfl)
  | k, .lst _, h, _, _ => by cases k <;> exact absurd h Bool.false_ne_true
  | k, .dct _ _, h, _, _ => by cases k <;> exact absurd h Bool.false_ne_true
  | k, .frz _, h, _, _ => by cases k <;> exact absurd h Bool.false_ne_true
  | k, .ty _, h, _, _ => by cases k <;> exact absurd h Bool.false_ne_true

/-! ### calls of _law_take -/
theorem take_call {i : Nat} {m : MS} {tg : Tag} {ns : List Int} {e : EF} {k : Int} (hm : sl m i = some (tg, .lst (ns.map .int))) (ht : tg = .own ∨ tg = .byr) (he : e m = some (.val (.int k), m)) (hk : 0 < k) :
    mCall [true, false] c_take (aC (mV i) (aC e aN)) m = some (.val (.int (takeI ns k).1), m.set i (some (tg, .lst ((takeI ns k).2.map .int)))) := by
  have h1 : mV i m = some (.bor i, m) := by
    unfold mV
    rw [hm]
    rcases ht with rfl | rfl <;> rfl
  refine call_run (ps := [.bor i, .val (.int k)]) (ds := [.lst (ns.map .int), .int k]) (rs := [.lst ((takeI ns k).2.map .int)]) (aC_run h1 (aC_run he rfl)) ?_ (take_ok ns hk) rfl ?_ ?_
  · unfold argsM
    rw [hm]
    rcases ht with rfl | rfl <;> rfl
  · have : leafD (.lst ((takeI ns k).2.map D.int)) = true := by
      show noLsts ((takeI ns k).2.map D.int) = true
      generalize (takeI ns k).2 = l
      induction l with
      | nil => rfl
      | cons a l ih => exact ih
    show ((true || _) && ((leafD _ && true) || _)) = true
    rw [this]
    rfl
  · show (match sl m i with | some (t, _) => setCont (m.set i (some (t, .lst ((takeI ns k).2.map .int)))) [] [] | none => none) = _
    rw [hm]
    rfl


/-! ### _law_size -/
theorem size_ok (ns xs : List Int) : ∃ (n : Int) (ns' : List Int), c_size [.lst (ns.map .int), .frz (xs.map .int)] = some (.val (.int n), [.lst (ns'.map .int)]) ∧ 0 ≤ n := by
  -- kind, number
  have r1 := takeI_range (ns := ns) (m := 4) (by decide)
  generalize hk : (takeI ns 4).1 = kd at r1
  generalize hn1 : (takeI ns 4).2 = n1
  have r2 := takeI_range (ns := n1) (m := 1000) (by decide)
  generalize ha : (takeI n1 1000).1 = num at r2
  generalize hn2 : (takeI n1 1000).2 = n2
  have hget : ∀ i : Nat, i < (xs.map D.int).length → ∃ z : Int, (xs.map D.int)[i]? = some (.int z) := fun i hi => by
    rw [List.length_map] at hi
    exact ⟨xs[i], by rw [List.getElem?_map, List.getElem?_eq_getElem hi]; rfl⟩
  generalize xs.map D.int = L at hget ⊢
  have st : ∀ {ds : List Int} {x y : Option (Tag × D)} {k : Int} {e : EF}, e [some (.byr, .lst (ds.map .int)), some (.shr, .frz L), x, y] = some (.val (.int k), [some (.byr, .lst (ds.map .int)), some (.shr, .frz L), x, y]) → 0 < k →
      mCall [true, false] c_take (aC (mV 0) (aC e aN)) [some (.byr, .lst (ds.map .int)), some (.shr, .frz L), x, y] = some (.val (.int (takeI ds k).1), [some (.byr, .lst ((takeI ds k).2.map .int)), some (.shr, .frz L), x, y]) := fun he hk => take_call rfl (.inr rfl) he hk
  have s4 : ∀ {ds : List Int} {x y : Option (Tag × D)}, mCall [true, false] c_take (aC (mV 0) (aC (mC (.int 4)) aN)) [some (.byr, .lst (ds.map .int)), some (.shr, .frz L), x, y] = some (.val (.int (takeI ds 4).1), [some (.byr, .lst ((takeI ds 4).2.map .int)), some (.shr, .frz L), x, y]) := st rfl (by decide)
  have s1000 : ∀ {ds : List Int} {x y : Option (Tag × D)}, mCall [true, false] c_take (aC (mV 0) (aC (mC (.int 1000)) aN)) [some (.byr, .lst (ds.map .int)), some (.shr, .frz L), x, y] = some (.val (.int (takeI ds 1000).1), [some (.byr, .lst ((takeI ds 1000).2.map .int)), some (.shr, .frz L), x, y]) := st rfl (by decide)
  suffices h : ∃ (n : Int) (ns' : List Int), k_size (entry [true, false] [.lst (ns.map .int), .frz L] 2) = some (.rt (.val (.int n)), [some (.byr, .lst (ns'.map .int)), some (.shr, .frz L), some (.shr, .int kd), some (.shr, .int n)]) ∧ 0 ≤ n by
    obtain ⟨n, ns', h1, h2⟩ := h
    exact ⟨n, ns', def_rt rfl h1 rfl, h2⟩
  unfold k_size
  have four : kd = 0 ∨ kd = 1 ∨ kd = 2 ∨ kd = 3 := by omega
  rcases four with rfl | rfl | rfl | rfl
  · refine ⟨num, n2, ?_, r2.1⟩
    simp [s4, s1000, hk, hn1, ha, hn2]
  · have r := takeI_range (ns := n2) (m := 1000) (by decide)
    refine ⟨num + (1 + (takeI n2 1000).1) * 10 ^ 15, (takeI n2 1000).2, ?_, by omega⟩
    simp [s4, s1000, hk, hn1, ha, hn2]
  · by_cases hz : L.length = 0
    · refine ⟨num, n2, ?_, r2.1⟩
      simp [s4, s1000, hk, hn1, ha, hn2, hz]
    · have hL : (0 : Int) < (L.length : Int) := by omega
      have r := takeI_range (ns := n2) (m := (L.length : Int)) hL
      obtain ⟨j, hj⟩ : ∃ j : Nat, (takeI n2 (L.length : Int)).1 = (j : Int) := ⟨_, (Int.toNat_of_nonneg r.1).symm⟩
      obtain ⟨z, hz'⟩ := hget j (by omega)
      have hat := atI_nat hz'
      have sl' : ∀ {y z : Option (Tag × D)}, mCall [true, false] c_take (aC (mV 0) (aC (mn cLen (aC (mV 1) aN)) aN)) [some (.byr, .lst (n2.map .int)), some (.shr, .frz L), y, z] = some (.val (.int (j : Int)), [some (.byr, .lst ((takeI n2 (L.length : Int)).2.map .int)), some (.shr, .frz L), y, z]) := by
        intro y z
        rw [← hj]
        exact st rfl hL
      refine ⟨num + (if z < 0 then -z else z) % 10 ^ 60, (takeI n2 (L.length : Int)).2, ?_, ?_⟩
      · have hLn : 0 < L.length := by omega
        simp [s4, s1000, hk, hn1, ha, hn2, sl', hLn, hat]
      · have := Int.emod_nonneg (if z < 0 then -z else z) (show (10 : Int) ^ 60 ≠ 0 by decide)
        omega
  · have r := takeI_range (ns := n2) (m := 1000) (by decide)
    refine ⟨num * 1000 + (takeI n2 1000).1, (takeI n2 1000).2, ?_, by omega⟩
    simp [s4, s1000, hk, hn1, ha, hn2]

end VL

set_option Elab.async false
set_option linter.all false
set_option maxRecDepth 100000
set_option autoImplicit false
/-! The value layer, part 20: what the laws have in common: draws, comparison, sizes. -/
namespace VL
open PySem PySem.Spec L2
/-! ### _law_draws -/
theorem ixN_at {n j : Nat} (h : j < n) : ixN n (j : Int) = some j := by
  unfold ixN
  rw [if_pos (by omega), if_pos (by omega)]
  simp

/-- one turn -/
theorem draws_body {X : List D} {M : D} {cs rs ds : List Int} {z : Int} {j : Nat} {x6 x7 : Option D} (hj : z % (cs.length : Int) = (j : Int)) (hjl : j < cs.length) (hr : rs.length = cs.length) (hdz : ds.length < sizeLine) :
    ∃ (rs' ds' : List Int) (y6 y7 : Option D), rs'.length = cs.length ∧ ds'.length = ds.length + 1 ∧ (sSeq (sSet 6 false (VL.m2 dMod (mV 5) (mn cLen (aC (mV 2) aN))))
    (sIf (qAnd (tOf (VL.m2 dGe (VL.m2 dIx (mV 2) (mV 6)) (VL.m2 dPow (mC (.int 10)) (mC (.int 18))))) (tOf (VL.m2 dGt (VL.m2 dIx (mV 3) (mV 6)) (mC (.int 0)))))
    (sSeq (sExpr (mW "list" 4 wAppend (aC (VL.m2 dMod (mn cInt (aC (VL.m2 dIx (mV 3) (mV 6)) aN)) (mC (.int 1000))) aN)))
    (sAsg (gSubD 3 lSet (mV 6)) (VL.m2 dDiv (VL.m2 dIx (mV 3) (mV 6)) (mC (.int 1000)))))
    (sSeq (sSet 7 false (VL.m2 dMod (mn cInt (aC (VL.m2 dAdd (VL.m2 dAdd (VL.m2 dMul (VL.m2 dIx (mV 2) (mV 6)) (mC (.int 48271))) (VL.m2 dMul (mV 5) (mC (.int 69621)))) (mC (.int 11))) aN)) (mC (.int 2147483647))))
    (sExpr (mW "list" 4 wAppend (aC (VL.m2 dMod (mn cInt (aC (VL.m2 dAdd (VL.m2 dAdd (VL.m2 dMul (mV 7) (mV 7)) (VL.m2 dMul (mC (.int 3)) (mV 7))) (mV 5)) aN)) (mC (.int 1000003))) aN))))))
      [some (.shr, .frz X), some (.shr, M), some (.own, .lst (cs.map .int)), some (.own, .lst (rs.map .int)), some (.own, .lst (ds.map .int)), some (.shr, .int z), x6.map (.shr, ·), x7.map (.shr, ·), none] =
      some (.nx, [some (.shr, .frz X), some (.shr, M), some (.own, .lst (cs.map .int)), some (.own, .lst (rs'.map .int)), some (.own, .lst (ds'.map .int)), some (.shr, .int z), y6.map (.shr, ·), y7.map (.shr, ·), none]) := by
  have hcl : 0 < cs.length := by omega
  have a1 : atI (cs.map D.int) (j : Int) = some (.int cs[j]) := atI_nat (by rw [List.getElem?_map, List.getElem?_eq_getElem hjl]; rfl)
  have a2 : atI (rs.map D.int) (j : Int) = some (.int (rs[j]'(by omega))) := atI_nat (by rw [List.getElem?_map, List.getElem?_eq_getElem (by omega)]; rfl)
  have a3 : ixN cs.length (j : Int) = some j := ixN_at hjl
  generalize cs[j] = c at a1
  generalize rs[j]'(by omega) = r at a2
  by_cases hb : (1000000000000000000 : Int) ≤ c ∧ 0 < r
  · refine ⟨rs.set j (r / 1000), ds ++ [r % 1000], some (.int (j : Nat)), x7, by simp [hr], by simp, ?_⟩
    have hb1 := hb.1
    have hb2 := hb.2
    cases x6 <;> cases x7 <;> simp [hj, hcl, a1, a2, a3, hb1, hb2, hdz, hr]
  · generalize hon : (c * 48271 + z * 69621 + 11) % 2147483647 = on
    have o1 : 0 ≤ on := by rw [← hon]; exact Int.emod_nonneg _ (by decide)
    have o2 : on < 2147483647 := by rw [← hon]; exact Int.emod_lt_of_pos _ (by decide)
    have o3 : -18446744073709551616 < on := by omega
    have o4 : on < 18446744073709551616 := by omega
    refine ⟨rs, ds ++ [(on * on + 3 * on + z) % 1000003], some (.int (j : Nat)), some (.int on), hr, by simp, ?_⟩
    by_cases h1 : (1000000000000000000 : Int) ≤ c
    · have h2 : ¬ 0 < r := fun z => hb ⟨h1, z⟩
      cases x6 <;> cases x7 <;> simp [hj, hcl, a1, a2, h1, h2, hdz, hon, o3, o4]
    · cases x6 <;> cases x7 <;> simp [hj, hcl, a1, a2, h1, hdz, hon, o3, o4]
theorem draws_ok (xs : List Int) (many : Nat) (hx : xs.length ≤ 100) (hm : many ≤ 10000) : ∃ ns : List Int, c_draws [.frz (xs.map .int), .int (many : Nat)] = some (.fresh (.lst (ns.map .int)), []) := by
  have hz : sizeLine = 16777216 := sizeLine_eq
  obtain ⟨cs, hcs, hcl, hcl2⟩ : ∃ cs : List Int, cs = (if xs.length = 0 then [0] else xs) ∧ 0 < cs.length ∧ cs.length ≤ 100 := by
    by_cases h : xs.length = 0
    · exact ⟨[0], (if_pos h).symm, by simp, by simp⟩
    · exact ⟨xs, (if_neg h).symm, by omega, hx⟩
  have loop : ∃ m', forL (gN 5) (sSeq (sSet 6 false (VL.m2 dMod (mV 5) (mn cLen (aC (mV 2) aN))))
    (sIf (qAnd (tOf (VL.m2 dGe (VL.m2 dIx (mV 2) (mV 6)) (VL.m2 dPow (mC (.int 10)) (mC (.int 18))))) (tOf (VL.m2 dGt (VL.m2 dIx (mV 3) (mV 6)) (mC (.int 0)))))
    (sSeq (sExpr (mW "list" 4 wAppend (aC (VL.m2 dMod (mn cInt (aC (VL.m2 dIx (mV 3) (mV 6)) aN)) (mC (.int 1000))) aN)))
    (sAsg (gSubD 3 lSet (mV 6)) (VL.m2 dDiv (VL.m2 dIx (mV 3) (mV 6)) (mC (.int 1000)))))
    (sSeq (sSet 7 false (VL.m2 dMod (mn cInt (aC (VL.m2 dAdd (VL.m2 dAdd (VL.m2 dMul (VL.m2 dIx (mV 2) (mV 6)) (mC (.int 48271))) (VL.m2 dMul (mV 5) (mC (.int 69621)))) (mC (.int 11))) aN)) (mC (.int 2147483647))))
    (sExpr (mW "list" 4 wAppend (aC (VL.m2 dMod (mn cInt (aC (VL.m2 dAdd (VL.m2 dAdd (VL.m2 dMul (mV 7) (mV 7)) (VL.m2 dMul (mC (.int 3)) (mV 7))) (mV 5)) aN)) (mC (.int 1000003))) aN))))))
      ((List.range many).map fun (i : Nat) => D.int (i : Nat)) [some (.shr, .frz (xs.map .int)), some (.shr, .int (many : Nat)), some (.own, .lst (cs.map .int)), some (.own, .lst (cs.map .int)), some (.own, .lst []), none, none, none, none] = some (.nx, m') ∧
      ∃ (rs ds : List Int) (x5 x6 x7 : Option (Tag × D)), m' = [some (.shr, .frz (xs.map .int)), some (.shr, .int (many : Nat)), some (.own, .lst (cs.map .int)), some (.own, .lst (rs.map .int)), some (.own, .lst (ds.map .int)), x5, x6, x7, none] := by
    refine (forL_range (fun i m => ∃ (rs ds : List Int) (x5 x6 x7 : Option D), rs.length = cs.length ∧ ds.length = i ∧ m = [some (.shr, .frz (xs.map .int)), some (.shr, .int (many : Nat)), some (.own, .lst (cs.map .int)), some (.own, .lst (rs.map .int)), some (.own, .lst (ds.map .int)), x5.map (.shr, ·), x6.map (.shr, ·), x7.map (.shr, ·), none]) ?_ ?_).imp fun m' ⟨h1, rs, ds, x5, x6, x7, _, _, h2⟩ => ⟨h1, rs, ds, _, _, _, h2⟩
    · rintro i m hi ⟨rs, ds, x5, x6, x7, hr, hd, rfl⟩
      obtain ⟨j, hj⟩ : ∃ j : Nat, (i : Int) % (cs.length : Int) = (j : Int) := ⟨_, (Int.toNat_of_nonneg (Int.emod_nonneg _ (by omega))).symm⟩
      have hjl : j < cs.length := by have := Int.emod_lt_of_pos (i : Int) (show (0 : Int) < (cs.length : Int) by omega); omega
      obtain ⟨rs', ds', y6, y7, e1, e2, e3⟩ := draws_body (X := xs.map .int) (M := .int (many : Nat)) (ds := ds) (x6 := x6) (x7 := x7) hj hjl hr (by omega)
      exact ⟨_, _, .nx, by cases x5 <;> rfl, e3, .inl rfl, rs', ds', some (.int (i : Nat)), y6, y7, e1, by omega, rfl⟩
    · exact ⟨cs, [], none, none, none, rfl, rfl, rfl⟩
  obtain ⟨m', hl, rs, ds, x5, x6, x7, rfl⟩ := loop
  refine ⟨ds.reverse, def_rt (p := .fresh (.lst (ds.reverse.map .int))) (m1 := [some (.shr, .frz (xs.map .int)), some (.shr, .int (many : Nat)), some (.own, .lst (cs.map .int)), some (.own, .lst (rs.map .int)), some (.own, .lst (ds.reverse.map .int)), x5, x6, x7, none]) rfl ?_ rfl⟩
  unfold k_draws
  have lc : mLc [8] (iSeq (mV 0)) (gN 8) qYes (mn cInt (aC (mV 8) aN)) [some (.shr, .frz (xs.map .int)), some (.shr, .int (many : Nat)), none, none, none, none, none, none, none] = some (.fresh (.lst (xs.map .int)), [some (.shr, .frz (xs.map .int)), some (.shr, .int (many : Nat)), none, none, none, none, none, none, none]) := by
    refine lc_run (m1 := [some (.shr, .frz (xs.map .int)), some (.shr, .int (many : Nat)), none, none, none, none, none, none, none]) (m2 := [some (.shr, .frz (xs.map .int)), some (.shr, .int (many : Nat)), none, none, none, none, none, none, none]) (ds := xs.map .int) (bk := none) rfl rfl ?_ rfl
    exact lcL_all (vs := [8]) (tg := gN 8) (tt := qYes) (el := mn cInt (aC (mV 8) aN)) D.int D.int (acc := []) (fun x hx => ⟨_, _, _, _, _, rfl, rfl, rfl, rfl, rfl, rfl⟩) (by simp; omega)
  have mid : (sIf (tOf (VL.m2 dEqO (mn cLen (aC (mV 2) aN)) (mC (.int 0)))) (sExpr (mW "list" 2 wAppend (aC (mC (.int 0)) aN))) sNil)
      [some (.shr, .frz (xs.map .int)), some (.shr, .int (many : Nat)), some (.own, .lst (xs.map .int)), none, none, none, none, none, none] = some (.nx, [some (.shr, .frz (xs.map .int)), some (.shr, .int (many : Nat)), some (.own, .lst (cs.map .int)), none, none, none, none, none, none]) := by
    by_cases h : xs.length = 0
    · have h' : xs = [] := List.eq_nil_of_length_eq_zero h
      subst h'
      rw [hcs]
      rfl
    · rw [hcs, if_neg h]
      have h0 : (((xs.map D.int).length : Int) == 0) = false := beq_eq_false_iff_ne.mpr (by rw [List.length_map]; omega)
      refine if_f (m1 := [some (.shr, .frz (xs.map .int)), some (.shr, .int (many : Nat)), some (.own, .lst (xs.map .int)), none, none, none, none, none, none]) ?_ rfl
      show some (((xs.map D.int).length : Int) == 0, _) = _
      rw [h0]
  refine seq_nx (set_run lc rfl) (seq_nx mid (seq_nx (m1 := [some (.shr, .frz (xs.map .int)), some (.shr, .int (many : Nat)), some (.own, .lst (cs.map .int)), some (.own, .lst (cs.map .int)), none, none, none, none, none]) rfl (seq_nx (m1 := [some (.shr, .frz (xs.map .int)), some (.shr, .int (many : Nat)), some (.own, .lst (cs.map .int)), some (.own, .lst (cs.map .int)), some (.own, .lst []), none, none, none, none]) rfl
    (seq_nx (for_run (iR1_run (n := many) (m1 := [some (.shr, .frz (xs.map .int)), some (.shr, .int (many : Nat)), some (.own, .lst (cs.map .int)), some (.own, .lst (cs.map .int)), some (.own, .lst []), none, none, none, none]) rfl (by omega)) hl rfl) ?_))))
  refine seq_nx (m1 := [some (.shr, .frz (xs.map .int)), some (.shr, .int (many : Nat)), some (.own, .lst (cs.map .int)), some (.own, .lst (rs.map .int)), some (.own, .lst (ds.reverse.map .int)), x5, x6, x7, none]) ?_ ?_
  · refine expr_run (p := .val .non) (w0_run (tg := .own) (d0 := .lst (ds.map .int)) (d' := .lst (ds.reverse.map .int)) rfl rfl ?_ rfl)
    show some (D.non, D.lst (ds.map D.int).reverse) = _
    rw [List.map_reverse]
  · rfl
end VL

set_option Elab.async false
set_option linter.all false
set_option maxRecDepth 100000
set_option autoImplicit false
namespace VL
open PySem PySem.Spec PyProof.Rows L2
/-- a def's record is the one that stands there -/
theorem fun_fd {K : PySem.W.Frag} {x q : Str} {st : Stmt} {f : Addr} {fd fd2 : FuncData} {oc : Value} {od : Option Addr} {sl : Array (Option Value)} (F : Fun K x q st f fd) (l : K.lookup f = some ⟨oc, od, .func fd2, sl⟩) : fd = fd2 := by
  obtain ⟨_, _, _, _, _, _, _, _, _, _, lk, _⟩ := F.ex
  rw [lk] at l
  injection l with l
  injection l with _ _ h3 _
  injection h3
/-- the law's own argument -/
theorem arg_ok {K : PySem.W.Frag} {H : Hp} {a : Addr} {ns : List Int} {F : DF} {E : XK} (on : Only H) (hS : SqL K H a (ns.map V.int)) (h : F [.frz (ns.map D.int)] = some (.val (.bl true), [])) : spF K [false] F [.ref a] H (fun v _ => v = .bl true) E := by
  have fl : FL K H (fun _ => False) a (ns.map V.int) := by
    rcases hS with (q | ⟨o, q⟩) | q
    · rcases on a with z | ⟨o, xs, z⟩
      · rw [z] at q; cases q
      · rw [z] at q; cases q
    · exact .inl ⟨id, o, q⟩
    · exact .inr q
  refine ⟨fun _ => False, [.frz (ns.map D.int)], .val (.bl true), [], fun b z => z.elim, ⟨?_, trivial⟩, List.nodup_nil, h, fun v H' _ _ r _ => ?_⟩
  · rw [if_neg (by decide)]
    exact Rep.frz fl (reps_map_ints ns)
  · cases r
    rfl
end VL

set_option Elab.async false
set_option linter.all false
set_option maxRecDepth 100000
set_option autoImplicit false
namespace P69
open PySem PySem.Spec L2 VL
def topS (i : Nat) : Stmt := PySem.Challenge.pw_sentintime_k69_signs_of_two_arms.main.body.getD i (.Pass ⟨0, 0, 0, 0⟩)
abbrev s_all_signs : Stmt := topS 2
abbrev s_eighths_between : Stmt := topS 3
abbrev s_moves_between : Stmt := topS 4
abbrev s_signs_of : Stmt := topS 5
abbrev s_moves_of_word : Stmt := topS 6
abbrev s_places_in_both : Stmt := topS 7
abbrev s_misread : Stmt := topS 8
abbrev s_turned_sign : Stmt := topS 9
abbrev s_seen_from_behind : Stmt := topS 10
abbrev s_letters_alike_behind : Stmt := topS 11
abbrev s__law_draws : Stmt := topS 13
abbrev s__law_take : Stmt := topS 14
abbrev s__law_same : Stmt := topS 15
abbrev s__law_size : Stmt := topS 16
abbrev s__law_eighths : Stmt := topS 17
abbrev s__law_moves : Stmt := topS 18
abbrev s__law_code : Stmt := topS 19
abbrev s__law_signs_right : Stmt := topS 20
abbrev s__law_code_right : Stmt := topS 21
abbrev s_law : Stmt := topS 22
theorem sc_all_signs : FnScope ["one", "other"] [] (defScope s_all_signs) := ⟨rfl, rfl, rfl, by decide +kernel, rfl, by decide +kernel, by decide +kernel⟩
theorem sc_eighths_between : FnScope ["one", "other"] ["one", "other"] (defScope s_eighths_between) := ⟨rfl, rfl, rfl, by decide +kernel, rfl, by decide +kernel, by decide +kernel⟩
theorem sc_moves_between : FnScope ["one", "other", "straight", "crossed"] ["one", "other"] (defScope s_moves_between) := ⟨rfl, rfl, rfl, by decide +kernel, rfl, by decide +kernel, by decide +kernel⟩
theorem sc_signs_of : FnScope ["code", "letter", "sign"] ["code"] (defScope s_signs_of) := ⟨rfl, rfl, rfl, by decide +kernel, rfl, by decide +kernel, by decide +kernel⟩
theorem sc_moves_of_word : FnScope ["code", "word", "told", "signs", "letter", "at"] ["code", "word"] (defScope s_moves_of_word) := ⟨rfl, rfl, rfl, by decide +kernel, rfl, by decide +kernel, by decide +kernel⟩
theorem sc_places_in_both : FnScope ["one", "other", "place"] ["one", "other"] (defScope s_places_in_both) := ⟨rfl, rfl, rfl, by decide +kernel, rfl, by decide +kernel, by decide +kernel⟩
theorem sc_misread : FnScope ["one", "code", "letter", "sign"] ["one", "code"] (defScope s_misread) := ⟨rfl, rfl, rfl, by decide +kernel, rfl, by decide +kernel, by decide +kernel⟩
theorem sc_turned_sign : FnScope ["sign", "eighths", "one", "other", "place"] ["sign", "eighths"] (defScope s_turned_sign) := ⟨rfl, rfl, rfl, by decide +kernel, rfl, by decide +kernel, by decide +kernel⟩
theorem sc_seen_from_behind : FnScope ["sign", "one", "other", "place"] ["sign"] (defScope s_seen_from_behind) := ⟨rfl, rfl, rfl, by decide +kernel, rfl, by decide +kernel, by decide +kernel⟩
theorem sc_letters_alike_behind : FnScope ["code", "found", "letter", "sign", "other", "own"] ["code"] (defScope s_letters_alike_behind) := ⟨rfl, rfl, rfl, by decide +kernel, rfl, by decide +kernel, by decide +kernel⟩
theorem sc__law_draws : FnScope ["script", "many", "cells", "rest", "draws", "k", "at", "once", "cell"] ["script", "many"] (defScope s__law_draws) := ⟨rfl, rfl, rfl, by decide +kernel, rfl, by decide +kernel, by decide +kernel⟩
theorem sc__law_take : FnScope ["draws", "many"] ["draws", "many"] (defScope s__law_take) := ⟨rfl, rfl, rfl, by decide +kernel, rfl, by decide +kernel, by decide +kernel⟩
theorem sc__law_same : FnScope ["actual", "due", "k"] ["actual", "due"] (defScope s__law_same) := ⟨rfl, rfl, rfl, by decide +kernel, rfl, by decide +kernel, by decide +kernel⟩
theorem sc__law_size : FnScope ["draws", "script", "kind", "number"] ["draws", "script"] (defScope s__law_size) := ⟨rfl, rfl, rfl, by decide +kernel, rfl, by decide +kernel, by decide +kernel⟩
theorem sc__law_eighths : FnScope ["one", "other", "k"] ["one", "other"] (defScope s__law_eighths) := ⟨rfl, rfl, rfl, by decide +kernel, rfl, by decide +kernel, by decide +kernel⟩
theorem sc__law_moves : FnScope ["one", "other"] ["one", "other"] (defScope s__law_moves) := ⟨rfl, rfl, rfl, by decide +kernel, rfl, by decide +kernel, by decide +kernel⟩
theorem sc__law_code : FnScope ["draws", "signs", "many", "letters", "left", "letter", "k"] ["draws", "signs", "many"] (defScope s__law_code) := ⟨rfl, rfl, rfl, by decide +kernel, rfl, by decide +kernel, by decide +kernel⟩
theorem sc__law_signs_right : FnScope ["draws", "script", "signs", "one", "other", "third", "far", "eighths", "turned", "behind", "place"] ["draws", "script", "signs"] (defScope s__law_signs_right) := ⟨rfl, rfl, rfl, by decide +kernel, rfl, by decide +kernel, by decide +kernel⟩
theorem sc__law_code_right : FnScope ["draws", "signs", "code", "told", "word", "due", "k", "sign", "some", "pairs", "letter", "own", "other", "place"] ["draws", "signs"] (defScope s__law_code_right) := ⟨rfl, rfl, rfl, by decide +kernel, rfl, by decide +kernel, by decide +kernel⟩
theorem sc_law : FnScope ["script", "draws", "signs", "one", "k", "code", "other"] ["script"] (defScope s_law) := ⟨rfl, rfl, rfl, by decide +kernel, rfl, by decide +kernel, by decide +kernel⟩
theorem hu1 {k : Nat} {A : Around} (hr : Room k A) : A.units + 1 < cLine := by have := hr.units; omega
/-- what the top has written -/
structure Tx (K : PySem.W.Frag) (mg : Str → Option Value) : Prop where
  d_all_signs : ∃ f fd, mg "all_signs" = some (.ref f) ∧ Fun K "all_signs" "all_signs" s_all_signs f fd ∧ Binds K fd [] []
  d_eighths_between : ∃ f fd, mg "eighths_between" = some (.ref f) ∧ Fun K "eighths_between" "eighths_between" s_eighths_between f fd ∧ Binds K fd ["one", "other"] []
  d_moves_between : ∃ f fd, mg "moves_between" = some (.ref f) ∧ Fun K "moves_between" "moves_between" s_moves_between f fd ∧ Binds K fd ["one", "other"] []
  d_signs_of : ∃ f fd, mg "signs_of" = some (.ref f) ∧ Fun K "signs_of" "signs_of" s_signs_of f fd ∧ Binds K fd ["code"] []
  d_moves_of_word : ∃ f fd, mg "moves_of_word" = some (.ref f) ∧ Fun K "moves_of_word" "moves_of_word" s_moves_of_word f fd ∧ Binds K fd ["code", "word"] []
  d_places_in_both : ∃ f fd, mg "places_in_both" = some (.ref f) ∧ Fun K "places_in_both" "places_in_both" s_places_in_both f fd ∧ Binds K fd ["one", "other"] []
  d_misread : ∃ f fd, mg "misread" = some (.ref f) ∧ Fun K "misread" "misread" s_misread f fd ∧ Binds K fd ["one", "code"] []
  d_turned_sign : ∃ f fd, mg "turned_sign" = some (.ref f) ∧ Fun K "turned_sign" "turned_sign" s_turned_sign f fd ∧ Binds K fd ["sign", "eighths"] []
  d_seen_from_behind : ∃ f fd, mg "seen_from_behind" = some (.ref f) ∧ Fun K "seen_from_behind" "seen_from_behind" s_seen_from_behind f fd ∧ Binds K fd ["sign"] []
  d_letters_alike_behind : ∃ f fd, mg "letters_alike_behind" = some (.ref f) ∧ Fun K "letters_alike_behind" "letters_alike_behind" s_letters_alike_behind f fd ∧ Binds K fd ["code"] []
  d__law_draws : ∃ f fd, mg "_law_draws" = some (.ref f) ∧ Fun K "_law_draws" "_law_draws" s__law_draws f fd ∧ Binds K fd ["script", "many"] []
  d__law_take : ∃ f fd, mg "_law_take" = some (.ref f) ∧ Fun K "_law_take" "_law_take" s__law_take f fd ∧ Binds K fd ["draws", "many"] []
  d__law_same : ∃ f fd, mg "_law_same" = some (.ref f) ∧ Fun K "_law_same" "_law_same" s__law_same f fd ∧ Binds K fd ["actual", "due"] []
  d__law_size : ∃ f fd, mg "_law_size" = some (.ref f) ∧ Fun K "_law_size" "_law_size" s__law_size f fd ∧ Binds K fd ["draws", "script"] []
  d__law_eighths : ∃ f fd, mg "_law_eighths" = some (.ref f) ∧ Fun K "_law_eighths" "_law_eighths" s__law_eighths f fd ∧ Binds K fd ["one", "other"] []
  d__law_moves : ∃ f fd, mg "_law_moves" = some (.ref f) ∧ Fun K "_law_moves" "_law_moves" s__law_moves f fd ∧ Binds K fd ["one", "other"] []
  d__law_code : ∃ f fd, mg "_law_code" = some (.ref f) ∧ Fun K "_law_code" "_law_code" s__law_code f fd ∧ Binds K fd ["draws", "signs", "many"] []
  d__law_signs_right : ∃ f fd, mg "_law_signs_right" = some (.ref f) ∧ Fun K "_law_signs_right" "_law_signs_right" s__law_signs_right f fd ∧ Binds K fd ["draws", "script", "signs"] []
  d__law_code_right : ∃ f fd, mg "_law_code_right" = some (.ref f) ∧ Fun K "_law_code_right" "_law_code_right" s__law_code_right f fd ∧ Binds K fd ["draws", "signs"] []
  d_law : ∃ f fd, mg "law" = some (.ref f) ∧ Fun K "law" "law" s_law f fd ∧ Binds K fd ["script"] []
  b_abs : mg "abs" = none
  b_any : mg "any" = none
  b_bool : mg "bool" = none
  b_dict : mg "dict" = none
  b_int : mg "int" = none
  b_isinstance : mg "isinstance" = none
  b_len : mg "len" = none
  b_list : mg "list" = none
  b_min : mg "min" = none
  b_range : mg "range" = none
  b_set : mg "set" = none
  b_sorted : mg "sorted" = none
  b_str : mg "str" = none
  b_sum : mg "sum" = none
  b_tuple : mg "tuple" = none
  c_PLACES : ∃ t, mg "PLACES" = some (.int 8 t)
/-! ### the defs as functions on data -/
noncomputable def g_all_signs : SF :=
    (sRet (mn cTuple (aC (mLc2 [0, 1] [1] (iR1 (aC (mC (.int 8)) aN)) (gN 0) qYes (iW2 (aC (m2 dAdd (mV 0) (mC (.int 1))) (aC (mC (.int 8)) aN))) (gN 1) qYes (mTup (aC (mV 0) (aC (mV 1) aN)))) aN)))
noncomputable def f_all_signs : DF := defF [] 2 g_all_signs
noncomputable def g_eighths_between : SF :=
    (sRet (mn cMin (aC (m2 dMod (m2 dSub (mV 0) (mV 1)) (mC (.int 8))) (aC (m2 dMod (m2 dSub (mV 1) (mV 0)) (mC (.int 8))) aN))))
noncomputable def f_eighths_between : DF := defF [false, false] 0 g_eighths_between
noncomputable def g_moves_between : SF :=
    (sSeq (sSet 2 false (m2 dAdd (mCall [false, false] f_eighths_between (aC (m2 dIx (mV 0) (mC (.int 0))) (aC (m2 dIx (mV 1) (mC (.int 0))) aN))) (mCall [false, false] f_eighths_between (aC (m2 dIx (mV 0) (mC (.int 1))) (aC (m2 dIx (mV 1) (mC (.int 1))) aN)))))
    (sSeq (sSet 3 false (m2 dAdd (mCall [false, false] f_eighths_between (aC (m2 dIx (mV 0) (mC (.int 0))) (aC (m2 dIx (mV 1) (mC (.int 1))) aN))) (mCall [false, false] f_eighths_between (aC (m2 dIx (mV 0) (mC (.int 1))) (aC (m2 dIx (mV 1) (mC (.int 0))) aN)))))
    (sRet (mn cMin (aC (mV 2) (aC (mV 3) aN))))))
noncomputable def f_moves_between : DF := defF [false, false] 2 g_moves_between
noncomputable def g_signs_of : SF :=
    (sRet (mDc [1, 2] (iSeq (mV 0)) (gT 2 (gsC (gN 1) (gsC (gN 2) gsN))) qYes (mV 1) (mV 2)))
noncomputable def f_signs_of : DF := defF [false] 2 g_signs_of
noncomputable def g_moves_of_word : SF :=
    (sSeq (sSet 2 false (mCall [false] f_signs_of (aC (mV 0) aN)))
    (sSeq (sIf (tOf (mn cAny (aC (mLc [4] (iSeq (mV 1)) (gN 4) qYes (m2 dNotIn (mV 4) (mV 2))) aN)))
    (sRet (mC .non))
    sNil)
    (sSeq (sSet 3 false (mLc [4] (iSeq (mV 1)) (gN 4) qYes (m2 dIx (mV 2) (mV 4))))
    (sRet (mn cSum (aC (mLc [5] (iR1 (aC (m2 dSub (mn cLen (aC (mV 3) aN)) (mC (.int 1))) aN)) (gN 5) qYes (mCall [false, false] f_moves_between (aC (m2 dIx (mV 3) (mV 5)) (aC (m2 dIx (mV 3) (m2 dAdd (mV 5) (mC (.int 1)))) aN)))) aN))))))
noncomputable def f_moves_of_word : DF := defF [false, false] 4 g_moves_of_word
noncomputable def g_places_in_both : SF :=
    (sRet (mn cLen (aC (mLc [2] (iSeq (mV 0)) (gN 2) (tOf (m2 dIn (mV 2) (mV 1))) (mV 2)) aN)))
noncomputable def f_places_in_both : DF := defF [false, false] 1 g_places_in_both
noncomputable def g_misread : SF :=
    (sRet (mn cTuple (aC (mn cSorted (aC (mLc [2, 3] (iSeq (mV 1)) (gT 2 (gsC (gN 2) (gsC (gN 3) gsN))) (tOf (m2 dEqO (mCall [false, false] f_places_in_both (aC (mV 0) (aC (mV 3) aN))) (mC (.int 1)))) (mV 2)) aN)) aN)))
noncomputable def f_misread : DF := defF [false, false] 2 g_misread
noncomputable def g_turned_sign : SF :=
    (sSeq (sAsg (gT 2 (gsC (gN 2) (gsC (gN 3) gsN))) (mn cSorted (aC (mLc [4] (iSeq (mV 0)) (gN 4) qYes (m2 dMod (m2 dAdd (mV 4) (mV 1)) (mC (.int 8)))) aN)))
    (sRet (mTup (aC (mV 2) (aC (mV 3) aN)))))
noncomputable def f_turned_sign : DF := defF [false, false] 3 g_turned_sign
noncomputable def g_seen_from_behind : SF :=
    (sSeq (sAsg (gT 2 (gsC (gN 1) (gsC (gN 2) gsN))) (mn cSorted (aC (mLc [3] (iSeq (mV 0)) (gN 3) qYes (m2 dMod (m1 dNeg (mV 3)) (mC (.int 8)))) aN)))
    (sRet (mTup (aC (mV 1) (aC (mV 2) aN)))))
noncomputable def f_seen_from_behind : DF := defF [false] 3 g_seen_from_behind
noncomputable def g_letters_alike_behind : SF :=
    (sSeq (sSet 1 true (mLst aN))
    (sSeq (sFor (iSeq (mV 0)) (gT 2 (gsC (gN 2) (gsC (gN 3) gsN)))
    (sFor (iSeq (mV 0)) (gT 2 (gsC (gN 4) (gsC (gN 5) gsN)))
    (sIf (qAnd (tOf (m2 dLt (mV 2) (mV 4))) (tOf (m2 dEqO (mCall [false] f_seen_from_behind (aC (mV 3) aN)) (mV 5))))
    (sExpr (mW "list" 1 wAppend (aC (mTup (aC (mV 2) (aC (mV 4) aN))) aN)))
    sNil)))
    (sRet (mn cTuple (aC (mn cSorted (aC (mV 1) aN)) aN)))))
noncomputable def f_letters_alike_behind : DF := defF [false] 5 g_letters_alike_behind
noncomputable def g__law_draws : SF :=
    (sSeq (sSet 2 true (mLc [8] (iSeq (mV 0)) (gN 8) qYes (mn cInt (aC (mV 8) aN))))
    (sSeq (sIf (tOf (m2 dEqO (mn cLen (aC (mV 2) aN)) (mC (.int 0))))
    (sExpr (mW "list" 2 wAppend (aC (mC (.int 0)) aN)))
    sNil)
    (sSeq (sSet 3 true (mn cList (aC (mV 2) aN)))
    (sSeq (sSet 4 true (mLst aN))
    (sSeq (sFor (iR1 (aC (mV 1) aN)) (gN 5)
    (sSeq (sSet 6 false (m2 dMod (mV 5) (mn cLen (aC (mV 2) aN))))
    (sIf (qAnd (tOf (m2 dGe (m2 dIx (mV 2) (mV 6)) (m2 dPow (mC (.int 10)) (mC (.int 18))))) (tOf (m2 dGt (m2 dIx (mV 3) (mV 6)) (mC (.int 0)))))
    (sSeq (sExpr (mW "list" 4 wAppend (aC (m2 dMod (mn cInt (aC (m2 dIx (mV 3) (mV 6)) aN)) (mC (.int 1000))) aN)))
    (sAsg (gSubD 3 lSet (mV 6)) (m2 dDiv (m2 dIx (mV 3) (mV 6)) (mC (.int 1000)))))
    (sSeq (sSet 7 false (m2 dMod (mn cInt (aC (m2 dAdd (m2 dAdd (m2 dMul (m2 dIx (mV 2) (mV 6)) (mC (.int 48271))) (m2 dMul (mV 5) (mC (.int 69621)))) (mC (.int 11))) aN)) (mC (.int 2147483647))))
    (sExpr (mW "list" 4 wAppend (aC (m2 dMod (mn cInt (aC (m2 dAdd (m2 dAdd (m2 dMul (mV 7) (mV 7)) (m2 dMul (mC (.int 3)) (mV 7))) (mV 5)) aN)) (mC (.int 1000003))) aN)))))))
    (sSeq (sExpr (mW0 "list" 4 wReverse))
    (sRet (mV 4))))))))
noncomputable def f__law_draws : DF := defF [false, false] 7 g__law_draws
noncomputable def g__law_take : SF :=
    (sSeq (sIf (tOf (m2 dEqO (mn cLen (aC (mV 0) aN)) (mC (.int 0))))
    (sRet (mC (.int 0)))
    sNil)
    (sRet (m2 dMod (mn cInt (aC (mW0 "list" 0 wPop) aN)) (mV 1))))
noncomputable def f__law_take : DF := defF [true, false] 0 g__law_take
noncomputable def g__law_same (fr : DF) : SF :=
    (sSeq (sIf (tOf (mn cIsi (aC (mV 1) (aC (mC (.ty "bool")) aN))))
    (sRet (bAnd (mn cIsi (aC (mV 0) (aC (mC (.ty "bool")) aN))) (m2 dEqO (mV 0) (mV 1))))
    sNil)
    (sSeq (sIf (tOf (mn cIsi (aC (mV 1) (aC (mC (.ty "int")) aN))))
    (sRet (bAnd (mn cIsi (aC (mV 0) (aC (mC (.ty "int")) aN))) (bAnd (bNot (mn cIsi (aC (mV 0) (aC (mC (.ty "bool")) aN)))) (m2 dEqO (mV 0) (mV 1)))))
    sNil)
    (sSeq (sIf (tOf (mn cIsi (aC (mV 1) (aC (mC (.ty "str")) aN))))
    (sRet (bAnd (mn cIsi (aC (mV 0) (aC (mC (.ty "str")) aN))) (m2 dEqO (mV 0) (mV 1))))
    sNil)
    (sSeq (sIf (tOf (m2 dIsN (mV 1) (mC .non)))
    (sRet (m2 dIsN (mV 0) (mC .non)))
    sNil)
    (sSeq (sIf (qOr (qNot (tOf (mn cIsi (aC (mV 0) (aC (mC (.ty "tuple")) aN))))) (tOf (m2 dNeO (mn cLen (aC (mV 0) aN)) (mn cLen (aC (mV 1) aN)))))
    (sRet (mC (.bl false)))
    sNil)
    (sSeq (sFor (iR1 (aC (mn cLen (aC (mV 1) aN)) aN)) (gN 2)
    (sIf (qNot (tOf (mCall [false, false] fr (aC (m2 dIx (mV 0) (mV 2)) (aC (m2 dIx (mV 1) (mV 2)) aN)))))
    (sRet (mC (.bl false)))
    sNil))
    (sRet (mC (.bl true)))))))))
noncomputable def f__law_sameN : Nat → DF
  | 0 => fun _ => none
  | k + 1 => defF [false, false] 1 (g__law_same (f__law_sameN k))
noncomputable def f__law_same : DF := f__law_sameN 6
noncomputable def g__law_size : SF :=
    (sSeq (sSet 2 false (mCall [true, false] f__law_take (aC (mV 0) (aC (mC (.int 4)) aN))))
    (sSeq (sSet 3 false (mCall [true, false] f__law_take (aC (mV 0) (aC (mC (.int 1000)) aN))))
    (sSeq (sIf (tOf (m2 dEqO (mV 2) (mC (.int 1))))
    (sSet 3 false (m2 dAdd (mV 3) (m2 dMul (m2 dAdd (mC (.int 1)) (mCall [true, false] f__law_take (aC (mV 0) (aC (mC (.int 1000)) aN)))) (m2 dPow (mC (.int 10)) (mC (.int 15))))))
    sNil)
    (sSeq (sIf (qAnd (tOf (m2 dEqO (mV 2) (mC (.int 2)))) (tOf (m2 dGt (mn cLen (aC (mV 1) aN)) (mC (.int 0)))))
    (sSet 3 false (m2 dAdd (mV 3) (m2 dMod (mn cInt (aC (mn cAbs (aC (mn cInt (aC (m2 dIx (mV 1) (mCall [true, false] f__law_take (aC (mV 0) (aC (mn cLen (aC (mV 1) aN)) aN)))) aN)) aN)) aN)) (m2 dPow (mC (.int 10)) (mC (.int 60))))))
    sNil)
    (sSeq (sIf (tOf (m2 dEqO (mV 2) (mC (.int 3))))
    (sSet 3 false (m2 dAdd (m2 dMul (mV 3) (mC (.int 1000))) (mCall [true, false] f__law_take (aC (mV 0) (aC (mC (.int 1000)) aN)))))
    sNil)
    (sRet (mV 3)))))))
noncomputable def f__law_size : DF := defF [true, false] 2 g__law_size
noncomputable def g__law_eighths : SF :=
    (sRet (mn cMin (aC (mLc [2] (iR1 (aC (mC (.int 8)) aN)) (gN 2) (qOr (tOf (m2 dEqO (m2 dMod (mn cInt (aC (m2 dAdd (mV 0) (mV 2)) aN)) (mC (.int 8))) (mV 1))) (tOf (m2 dEqO (m2 dMod (mn cInt (aC (m2 dSub (mV 0) (mV 2)) aN)) (mC (.int 8))) (mV 1)))) (mV 2)) aN)))
noncomputable def f__law_eighths : DF := defF [false, false] 1 g__law_eighths
noncomputable def g__law_moves : SF :=
    (sRet (mn cMin (aC (m2 dAdd (mCall [false, false] f__law_eighths (aC (m2 dIx (mV 0) (mC (.int 0))) (aC (m2 dIx (mV 1) (mC (.int 0))) aN))) (mCall [false, false] f__law_eighths (aC (m2 dIx (mV 0) (mC (.int 1))) (aC (m2 dIx (mV 1) (mC (.int 1))) aN)))) (aC (m2 dAdd (mCall [false, false] f__law_eighths (aC (m2 dIx (mV 0) (mC (.int 0))) (aC (m2 dIx (mV 1) (mC (.int 1))) aN))) (mCall [false, false] f__law_eighths (aC (m2 dIx (mV 0) (mC (.int 1))) (aC (m2 dIx (mV 1) (mC (.int 0))) aN)))) aN))))
noncomputable def f__law_moves : DF := defF [false, false] 0 g__law_moves
noncomputable def g__law_code : SF :=
    (sSeq (sSet 3 true (mLc [5] (iSeq (mC (.str "abcdefghijkl"))) (gN 5) qYes (mV 5)))
    (sSeq (sSet 4 true (mn cList (aC (mV 1) aN)))
    (sRet (mn cTuple (aC (mLc [6] (iR1 (aC (mV 2) aN)) (gN 6) qYes (mTup (aC (mW "list" 3 wPopAt (aC (mCall [true, false] f__law_take (aC (mV 0) (aC (mn cLen (aC (mV 3) aN)) aN))) aN)) (aC (mW "list" 4 wPopAt (aC (mCall [true, false] f__law_take (aC (mV 0) (aC (mn cLen (aC (mV 4) aN)) aN))) aN)) aN)))) aN)))))
noncomputable def f__law_code : DF := defF [true, false, false] 4 g__law_code
noncomputable def g__law_signs_right : SF :=
    (sSeq (sSet 3 false (m2 dIx (mV 2) (mCall [true, false] f__law_take (aC (mV 0) (aC (mC (.int 28)) aN)))))
    (sSeq (sSet 4 false (m2 dIx (mV 2) (mCall [true, false] f__law_take (aC (mV 0) (aC (mC (.int 28)) aN)))))
    (sSeq (sSet 5 false (m2 dIx (mV 2) (mCall [true, false] f__law_take (aC (mV 0) (aC (mC (.int 28)) aN)))))
    (sSeq (sSet 6 false (mCall [false, false] f_moves_between (aC (mV 3) (aC (mV 4) aN))))
    (sSeq (sIf (qOr (qNot (tOf (mCall [false, false] f__law_same (aC (mV 6) (aC (mCall [false, false] f__law_moves (aC (mV 3) (aC (mV 4) aN))) aN))))) (qOr (qNot (tOf (mCall [false, false] f__law_same (aC (mCall [false, false] f_moves_between (aC (mV 4) (aC (mV 3) aN))) (aC (mV 6) aN))))) (tOf (m2 dNeO (m2 dEqO (mV 6) (mC (.int 0))) (m2 dEqO (mV 3) (mV 4))))))
    (sRet (mC (.bl false)))
    sNil)
    (sSeq (sIf (qOr (tOf (m2 dGt (mV 6) (m2 dAdd (mCall [false, false] f_moves_between (aC (mV 3) (aC (mV 5) aN))) (mCall [false, false] f_moves_between (aC (mV 5) (aC (mV 4) aN)))))) (tOf (m2 dGt (mV 6) (mC (.int 8)))))
    (sRet (mC (.bl false)))
    sNil)
    (sSeq (sSet 7 false (m2 dIx (mLst (aC (m2 dSub (mCall [true, false] f__law_take (aC (mV 0) (aC (mC (.int 17)) aN))) (mC (.int 8))) (aC (m2 dMul (m2 dMod (mCall [true, false] f__law_size (aC (mV 0) (aC (mV 1) aN))) (m2 dPow (mC (.int 10)) (mC (.int 29)))) (m2 dSub (mC (.int 1)) (m2 dMul (mC (.int 2)) (mCall [true, false] f__law_take (aC (mV 0) (aC (mC (.int 2)) aN)))))) aN))) (mCall [true, false] f__law_take (aC (mV 0) (aC (mC (.int 2)) aN)))))
    (sSeq (sSet 8 false (mn cTuple (aC (mn cSorted (aC (mLc [10] (iSeq (mV 3)) (gN 10) qYes (m2 dMod (mn cInt (aC (m2 dAdd (mV 10) (mV 7)) aN)) (mC (.int 8)))) aN)) aN)))
    (sSeq (sSet 9 false (mn cTuple (aC (mn cSorted (aC (mLc [10] (iSeq (mV 3)) (gN 10) qYes (m2 dIx (mLst (aC (mC (.int 0)) (aC (mC (.int 7)) (aC (mC (.int 6)) (aC (mC (.int 5)) (aC (mC (.int 4)) (aC (mC (.int 3)) (aC (mC (.int 2)) (aC (mC (.int 1)) aN))))))))) (mV 10))) aN)) aN)))
    (sSeq (sIf (qOr (qNot (tOf (mCall [false, false] f__law_same (aC (mCall [false, false] f_turned_sign (aC (mV 3) (aC (mV 7) aN))) (aC (mV 8) aN))))) (qOr (qNot (tOf (mCall [false, false] f__law_same (aC (mCall [false] f_seen_from_behind (aC (mV 3) aN)) (aC (mV 9) aN))))) (qNot (tOf (mCall [false, false] f__law_same (aC (mCall [false] f_seen_from_behind (aC (mV 9) aN)) (aC (mV 3) aN)))))))
    (sRet (mC (.bl false)))
    sNil)
    (sSeq (sIf (qOr (qNot (tOf (mCall [false, false] f__law_same (aC (mCall [false, false] f_turned_sign (aC (mCall [false, false] f_turned_sign (aC (mV 3) (aC (mV 7) aN))) (aC (m1 dNeg (mV 7)) aN))) (aC (mV 3) aN))))) (qNot (tOf (mCall [false, false] f__law_same (aC (mCall [false, false] f_turned_sign (aC (mV 3) (aC (mC (.int 8)) aN))) (aC (mV 3) aN))))))
    (sRet (mC (.bl false)))
    sNil)
    (sSeq (sIf (qNot (tOf (mCall [false, false] f__law_same (aC (mCall [false, false] f_moves_between (aC (mCall [false, false] f_turned_sign (aC (mV 3) (aC (mV 7) aN))) (aC (mCall [false, false] f_turned_sign (aC (mV 4) (aC (mV 7) aN))) aN))) (aC (mV 6) aN)))))
    (sRet (mC (.bl false)))
    sNil)
    (sSeq (sIf (qNot (tOf (mCall [false, false] f__law_same (aC (mCall [false, false] f_moves_between (aC (mCall [false] f_seen_from_behind (aC (mV 3) aN)) (aC (mCall [false] f_seen_from_behind (aC (mV 4) aN)) aN))) (aC (mV 6) aN)))))
    (sRet (mC (.bl false)))
    sNil)
    (sRet (mCall [false, false] f__law_same (aC (mCall [false] f_seen_from_behind (aC (mCall [false, false] f_turned_sign (aC (mV 3) (aC (mV 7) aN))) aN)) (aC (mCall [false, false] f_turned_sign (aC (mCall [false] f_seen_from_behind (aC (mV 3) aN)) (aC (m1 dNeg (mV 7)) aN))) aN)))))))))))))))))
noncomputable def f__law_signs_right : DF := defF [true, false, false] 8 g__law_signs_right
noncomputable def g__law_code_right : SF :=
    (sSeq (sSet 2 false (mCall [true, false, false] f__law_code (aC (mV 0) (aC (mV 1) (aC (mCall [true, false] f__law_take (aC (mV 0) (aC (mC (.int 13)) aN))) aN)))))
    (sSeq (sSet 3 false (mn cDict (aC (mV 2) aN)))
    (sSeq (sSet 4 false (mM "str" mJoin (mC (.str "")) (aC (mLc [6] (iR1 (aC (m2 dMul (mCall [true, false] f__law_take (aC (mV 0) (aC (mC (.int 9)) aN))) (mn cInt (aC (m2 dGt (mn cLen (aC (mV 2) aN)) (mC (.int 0))) aN))) aN)) (gN 6) qYes (m2 dIx (m2 dIx (mV 2) (mCall [true, false] f__law_take (aC (mV 0) (aC (mn cLen (aC (mV 2) aN)) aN)))) (mC (.int 0)))) aN)))
    (sSeq (sSet 5 false (mC (.int 0)))
    (sSeq (sFor (iR2 (aC (mC (.int 1)) (aC (mn cLen (aC (mV 4) aN)) aN))) (gN 6)
    (sSet 5 false (m2 dAdd (mV 5) (mCall [false, false] f__law_moves (aC (m2 dIx (mV 3) (m2 dIx (mV 4) (m2 dSub (mV 6) (mC (.int 1))))) (aC (m2 dIx (mV 3) (m2 dIx (mV 4) (mV 6))) aN))))))
    (sSeq (sIf (qOr (qNot (tOf (mCall [false, false] f__law_same (aC (mCall [false, false] f_moves_of_word (aC (mV 2) (aC (mV 4) aN))) (aC (mV 5) aN))))) (qOr (qNot (tOf (mCall [false, false] f__law_same (aC (mCall [false, false] f_moves_of_word (aC (mV 2) (aC (m1 dRev (mV 4)) aN))) (aC (mV 5) aN))))) (tOf (m2 dNotN (mCall [false, false] f_moves_of_word (aC (mV 2) (aC (m2 dAdd (mV 4) (mC (.str "z"))) aN))) (mC .non)))))
    (sRet (mC (.bl false)))
    sNil)
    (sSeq (sSet 7 false (m2 dIx (mV 1) (mCall [true, false] f__law_take (aC (mV 0) (aC (mC (.int 28)) aN)))))
    (sSeq (sSet 8 false (mn cSorted (aC (mLc [10, 11] (iSeq (mV 2)) (gT 2 (gsC (gN 10) (gsC (gN 11) gsN))) (tOf (m2 dEqO (m1 cLenSet (m2 dAdd (mV 11) (mV 7))) (mC (.int 3)))) (mV 10)) aN)))
    (sSeq (sIf (qNot (tOf (mCall [false, false] f__law_same (aC (mCall [false, false] f_misread (aC (mV 7) (aC (mV 2) aN))) (aC (mn cTuple (aC (mV 8) aN)) aN)))))
    (sRet (mC (.bl false)))
    sNil)
    (sSeq (sSet 9 true (mLst aN))
    (sSeq (sFor (iSeq (mV 2)) (gT 2 (gsC (gN 10) (gsC (gN 11) gsN)))
    (sFor (iSeq (mV 2)) (gT 2 (gsC (gN 12) (gsC (gN 7) gsN)))
    (sIf (qAnd (tOf (m2 dLt (mV 10) (mV 12))) (tOf (m2 dEqO (mn cSorted (aC (mLc [13] (iSeq (mV 11)) (gN 13) qYes (m2 dMod (mn cInt (aC (m2 dSub (mC (.int 8)) (mV 13)) aN)) (mC (.int 8)))) aN)) (mn cList (aC (mV 7) aN)))))
    (sExpr (mW "list" 9 wAppend (aC (mTup (aC (mV 10) (aC (mV 12) aN))) aN)))
    sNil)))
    (sRet (mCall [false, false] f__law_same (aC (mCall [false] f_letters_alike_behind (aC (mV 2) aN)) (aC (mn cTuple (aC (mn cSorted (aC (mV 9) aN)) aN)) aN)))))))))))))))
noncomputable def f__law_code_right : DF := defF [true, false] 12 g__law_code_right
noncomputable def g_law : SF :=
    (sSeq (sSet 1 true (mCall [false, false] f__law_draws (aC (mV 0) (aC (mC (.int 320)) aN))))
    (sSeq (sSet 2 false (mLst aN))
    (sSeq (sFor (iR1 (aC (mC (.int 8)) aN)) (gN 3)
    (sSet 2 false (m2 dAdd (mV 2) (mLc [6] (iR2 (aC (m2 dAdd (mV 3) (mC (.int 1))) (aC (mC (.int 8)) aN))) (gN 6) qYes (mTup (aC (mV 3) (aC (mV 6) aN)))))))
    (sSeq (sIf (qNot (tOf (mCall [false, false] f__law_same (aC (mCall [] f_all_signs aN) (aC (mn cTuple (aC (mV 2) aN)) aN)))))
    (sRet (mC (.bl false)))
    sNil)
    (sSeq (sFor (iR1 (aC (mC (.int 6)) aN)) (gN 4)
    (sIf (qOr (qNot (tOf (mCall [true, false, false] f__law_signs_right (aC (mV 1) (aC (mV 0) (aC (mV 2) aN)))))) (qNot (tOf (mCall [true, false] f__law_code_right (aC (mV 1) (aC (mV 2) aN))))))
    (sRet (mC (.bl false)))
    sNil))
    (sSeq (sSet 5 false (mTup (aC (mTup (aC (mC (.str "a")) (aC (mTup (aC (mC (.int 0)) (aC (mC (.int 1)) aN))) aN))) (aC (mTup (aC (mC (.str "b")) (aC (mTup (aC (mC (.int 0)) (aC (mC (.int 7)) aN))) aN))) (aC (mTup (aC (mC (.str "c")) (aC (mTup (aC (mC (.int 2)) (aC (mC (.int 5)) aN))) aN))) (aC (mTup (aC (mC (.str "d")) (aC (mTup (aC (mC (.int 0)) (aC (mC (.int 4)) aN))) aN))) aN))))))
    (sSeq (sIf (qOr (qNot (tOf (mCall [false, false] f__law_same (aC (mCall [false, false] f_moves_between (aC (mTup (aC (mC (.int 0)) (aC (mC (.int 1)) aN))) (aC (mTup (aC (mC (.int 4)) (aC (mC (.int 5)) aN))) aN))) (aC (mC (.int 6)) aN))))) (qOr (qNot (tOf (mCall [false, false] f__law_same (aC (mCall [false, false] f_moves_between (aC (mTup (aC (mC (.int 0)) (aC (mC (.int 7)) aN))) (aC (mTup (aC (mC (.int 0)) (aC (mC (.int 1)) aN))) aN))) (aC (mC (.int 2)) aN))))) (qNot (tOf (mCall [false, false] f__law_same (aC (mCall [false, false] f_moves_between (aC (mTup (aC (mC (.int 0)) (aC (mC (.int 4)) aN))) (aC (mTup (aC (mC (.int 2)) (aC (mC (.int 6)) aN))) aN))) (aC (mC (.int 4)) aN)))))))
    (sRet (mC (.bl false)))
    sNil)
    (sSeq (sIf (qOr (qNot (tOf (mCall [false, false] f__law_same (aC (mCall [false, false] f_moves_of_word (aC (mV 5) (aC (mC (.str "abc")) aN))) (aC (mC (.int 6)) aN))))) (qOr (qNot (tOf (mCall [false, false] f__law_same (aC (mCall [false, false] f_misread (aC (mTup (aC (mC (.int 0)) (aC (mC (.int 1)) aN))) (aC (mV 5) aN))) (aC (mTup (aC (mC (.str "b")) (aC (mC (.str "d")) aN))) aN))))) (qNot (tOf (mCall [false, false] f__law_same (aC (mCall [false] f_letters_alike_behind (aC (mV 5) aN)) (aC (mTup (aC (mTup (aC (mC (.str "a")) (aC (mC (.str "b")) aN))) aN)) aN)))))))
    (sRet (mC (.bl false)))
    sNil)
    (sRet (bAnd (mCall [false, false] f__law_same (aC (mCall [false, false] f_turned_sign (aC (mTup (aC (mC (.int 0)) (aC (mC (.int 7)) aN))) (aC (mC (.int 3)) aN))) (aC (mTup (aC (mC (.int 2)) (aC (mC (.int 3)) aN))) aN))) (bAnd (mCall [false, false] f__law_same (aC (mCall [false] f_seen_from_behind (aC (mTup (aC (mC (.int 0)) (aC (mC (.int 4)) aN))) aN)) (aC (mTup (aC (mC (.int 0)) (aC (mC (.int 4)) aN))) aN))) (bAnd (mCall [false, false] f__law_same (aC (mCall [false, false] f_moves_of_word (aC (mTup aN) (aC (mC (.str "")) aN))) (aC (mC (.int 0)) aN))) (mCall [false, false] f__law_same (aC (mCall [false, false] f_moves_of_word (aC (mV 5) (aC (mC (.str "c")) aN))) (aC (mC (.int 0)) aN)))))))))))))))
noncomputable def f_law : DF := defF [false] 6 g_law
/-! ### the defs keep their promises -/
section
variable {Pr : Program} {w : World} {K : PySem.W.Frag} {mg : Str → Option Value} {base : Heap}
theorem ok_all_signs (T : Tx K mg)  : Has Pr w K mg base "all_signs" s_all_signs [] 1 [] f_all_signs := by
  obtain ⟨f, fd, hm, F, b⟩ := T.d_all_signs
  obtain ⟨t_PLACES, T_PLACES⟩ := T.c_PLACES
  refine ⟨f, fd, hm, F, b, fn_ok F sc_all_signs rfl rfl fun cdv A outer s H E hr => ?_⟩
  exact (mss_one (ms_ret (me_callT cb_tuple (by rfl) T.b_tuple (by rfl) (ma_cons (me_lc2 rfl sc_all_signs.nd (mi_range1 (by rfl) T.b_range (ma_cons (me_gInt (by rfl) T_PLACES) ma_nil)) (own := [("one", 0), ("other", 1)]) (vs1 := [1]) (blkOk_by (by kernel_rfl)) (by decide) (by decide) (by decide) (fun _ _ _ _ _ => (mg_name (i := 0) sc_all_signs.nd rfl (by first | exact .inl rfl | exact .inr rfl))) (fun _ _ _ _ _ => mts_nil) (fun _ _ _ _ _ => (miw_range2 (by rfl) T.b_range (ma_cons (me_op ob_add (me_v (pv 0)) me_int) (ma_cons (me_gInt (by rfl) T_PLACES) ma_nil)))) (fun _ _ _ _ _ => (mg_name (i := 1) sc_all_signs.nd rfl (by first | exact .inl rfl | exact .inr rfl))) (fun _ _ _ _ _ => mts_nil) (fun _ _ _ _ _ => (me_tup (ma_cons (me_v (pv 0)) (ma_cons (me_v (pv 1)) ma_nil))))) ma_nil))))
theorem ok_eighths_between (T : Tx K mg)  : Has Pr w K mg base "eighths_between" s_eighths_between ["one", "other"] 1 [false, false] f_eighths_between := by
  obtain ⟨f, fd, hm, F, b⟩ := T.d_eighths_between
  obtain ⟨t_PLACES, T_PLACES⟩ := T.c_PLACES
  refine ⟨f, fd, hm, F, b, fn_ok F sc_eighths_between rfl rfl fun cdv A outer s H E hr => ?_⟩
  exact (mss_one (ms_ret (me_callB (cb_min rfl hr.units) (by rfl) T.b_min (by rfl) (ma_cons (me_op ob_mod (me_op ob_sub (me_v (pv 0)) (me_v (pv 1))) (me_gInt (by rfl) T_PLACES)) (ma_cons (me_op ob_mod (me_op ob_sub (me_v (pv 1)) (me_v (pv 0))) (me_gInt (by rfl) T_PLACES)) ma_nil)))))
theorem ok_moves_between (T : Tx K mg) (h_eighths_between : Has Pr w K mg base "eighths_between" s_eighths_between ["one", "other"] 1 [false, false] f_eighths_between) : Has Pr w K mg base "moves_between" s_moves_between ["one", "other"] 2 [false, false] f_moves_between := by
  obtain ⟨f, fd, hm, F, b⟩ := T.d_moves_between
  refine ⟨f, fd, hm, F, b, fn_ok F sc_moves_between rfl rfl fun cdv A outer s H E hr => ?_⟩
  exact (mss_cons (ms_set (i := 2) (own := false) sc_moves_between.nd rfl (by first | exact .inl rfl | exact .inr rfl) (me_op ob_add (me_callH h_eighths_between (hr.mono (by decide)) (by rfl) (ma_cons (me_ix hr.units (me_v (pv 0)) me_int) (ma_cons (me_ix hr.units (me_v (pv 1)) me_int) ma_nil))) (me_callH h_eighths_between (hr.mono (by decide)) (by rfl) (ma_cons (me_ix hr.units (me_v (pv 0)) me_int) (ma_cons (me_ix hr.units (me_v (pv 1)) me_int) ma_nil)))))
    (mss_cons (ms_set (i := 3) (own := false) sc_moves_between.nd rfl (by first | exact .inl rfl | exact .inr rfl) (me_op ob_add (me_callH h_eighths_between (hr.mono (by decide)) (by rfl) (ma_cons (me_ix hr.units (me_v (pv 0)) me_int) (ma_cons (me_ix hr.units (me_v (pv 1)) me_int) ma_nil))) (me_callH h_eighths_between (hr.mono (by decide)) (by rfl) (ma_cons (me_ix hr.units (me_v (pv 0)) me_int) (ma_cons (me_ix hr.units (me_v (pv 1)) me_int) ma_nil)))))
    (mss_one (ms_ret (me_callB (cb_min rfl hr.units) (by rfl) T.b_min (by rfl) (ma_cons (me_v (pv 2)) (ma_cons (me_v (pv 3)) ma_nil)))))))
theorem ok_signs_of (T : Tx K mg)  : Has Pr w K mg base "signs_of" s_signs_of ["code"] 1 [false] f_signs_of := by
  obtain ⟨f, fd, hm, F, b⟩ := T.d_signs_of
  refine ⟨f, fd, hm, F, b, fn_ok F sc_signs_of rfl rfl fun cdv A outer s H E hr => ?_⟩
  exact (mss_one (ms_ret (me_dc rfl sc_signs_of.nd (mi_seq (me_v (pv 0))) (own := [("letter", 1), ("sign", 2)]) (blkOk_by (by kernel_rfl)) (by decide) (fun _ _ _ _ _ => (mg_tup rfl (mgs_cons (mg_name (i := 1) sc_signs_of.nd rfl (by first | exact .inl rfl | exact .inr rfl)) (mgs_cons (mg_name (i := 2) sc_signs_of.nd rfl (by first | exact .inl rfl | exact .inr rfl)) mgs_nil)))) (fun _ _ _ _ _ => mts_nil) (fun _ _ _ _ _ => (me_v (pv 1))) (fun _ _ _ _ _ => (me_v (pv 2))))))
theorem ok_moves_of_word (T : Tx K mg) (h_moves_between : Has Pr w K mg base "moves_between" s_moves_between ["one", "other"] 2 [false, false] f_moves_between) (h_signs_of : Has Pr w K mg base "signs_of" s_signs_of ["code"] 1 [false] f_signs_of) : Has Pr w K mg base "moves_of_word" s_moves_of_word ["code", "word"] 3 [false, false] f_moves_of_word := by
  obtain ⟨f, fd, hm, F, b⟩ := T.d_moves_of_word
  refine ⟨f, fd, hm, F, b, fn_ok F sc_moves_of_word rfl rfl fun cdv A outer s H E hr => ?_⟩
  exact (mss_cons (ms_set (i := 2) (own := false) sc_moves_of_word.nd rfl (by first | exact .inl rfl | exact .inr rfl) (me_callH h_signs_of (hr.mono (by decide)) (by rfl) (ma_cons (me_v (pv 0)) ma_nil)))
    (mss_cons (ms_if (mt_val (me_callB (cb_any rfl) (by rfl) T.b_any (by rfl) (ma_cons (me_lc rfl sc_moves_of_word.nd (mi_seq (me_v (pv 1))) (own := [("letter", 4)]) (blkOk_by (by kernel_rfl)) (by decide) (fun _ _ _ _ _ => (mg_name (i := 4) sc_moves_of_word.nd rfl (by first | exact .inl rfl | exact .inr rfl))) (fun _ _ _ _ _ => mts_nil) (fun _ _ _ _ _ => (me_cmp (oc_notIn hr.units) (me_v (pv 4)) (me_v (pv 2))))) ma_nil)))
    (mss_one (ms_ret me_non))
    mss_nil)
    (mss_cons (ms_set (i := 3) (own := false) sc_moves_of_word.nd rfl (by first | exact .inl rfl | exact .inr rfl) (me_lc rfl sc_moves_of_word.nd (mi_seq (me_v (pv 1))) (own := [("letter", 4)]) (blkOk_by (by kernel_rfl)) (by decide) (fun _ _ _ _ _ => (mg_name (i := 4) sc_moves_of_word.nd rfl (by first | exact .inl rfl | exact .inr rfl))) (fun _ _ _ _ _ => mts_nil) (fun _ _ _ _ _ => (me_ix hr.units (me_v (pv 2)) (me_v (pv 4))))))
    (mss_one (ms_ret (me_callB (cb_sum rfl) (by rfl) T.b_sum (by rfl) (ma_cons (me_lc rfl sc_moves_of_word.nd (mi_range1 (by rfl) T.b_range (ma_cons (me_op ob_sub (me_callB cb_len (by rfl) T.b_len (by rfl) (ma_cons (me_v (pv 3)) ma_nil)) me_int) ma_nil)) (own := [("at", 5)]) (blkOk_by (by kernel_rfl)) (by decide) (fun _ _ _ _ _ => (mg_name (i := 5) sc_moves_of_word.nd rfl (by first | exact .inl rfl | exact .inr rfl))) (fun _ _ _ _ _ => mts_nil) (fun _ _ _ _ _ => (me_callH h_moves_between (hr.mono (by decide)) (by rfl) (ma_cons (me_ix hr.units (me_v (pv 3)) (me_v (pv 5))) (ma_cons (me_ix hr.units (me_v (pv 3)) (me_op ob_add (me_v (pv 5)) me_int)) ma_nil))))) ma_nil)))))))
theorem ok_places_in_both (T : Tx K mg)  : Has Pr w K mg base "places_in_both" s_places_in_both ["one", "other"] 1 [false, false] f_places_in_both := by
  obtain ⟨f, fd, hm, F, b⟩ := T.d_places_in_both
  refine ⟨f, fd, hm, F, b, fn_ok F sc_places_in_both rfl rfl fun cdv A outer s H E hr => ?_⟩
  exact (mss_one (ms_ret (me_callB cb_len (by rfl) T.b_len (by rfl) (ma_cons (me_lc rfl sc_places_in_both.nd (mi_seq (me_v (pv 0))) (own := [("place", 2)]) (blkOk_by (by kernel_rfl)) (by decide) (fun _ _ _ _ _ => (mg_name (i := 2) sc_places_in_both.nd rfl (by first | exact .inl rfl | exact .inr rfl))) (fun _ _ _ _ _ => (mts_one (mt_cmp (oc_in hr.units) (me_v (pv 2)) (me_v (pv 1))))) (fun _ _ _ _ _ => (me_v (pv 2)))) ma_nil))))
theorem ok_misread (T : Tx K mg) (h_places_in_both : Has Pr w K mg base "places_in_both" s_places_in_both ["one", "other"] 1 [false, false] f_places_in_both) : Has Pr w K mg base "misread" s_misread ["one", "code"] 2 [false, false] f_misread := by
  obtain ⟨f, fd, hm, F, b⟩ := T.d_misread
  refine ⟨f, fd, hm, F, b, fn_ok F sc_misread rfl rfl fun cdv A outer s H E hr => ?_⟩
  exact (mss_one (ms_ret (me_callT cb_tuple (by rfl) T.b_tuple (by rfl) (ma_cons (me_callB (cb_sorted hr.units) (by rfl) T.b_sorted (by rfl) (ma_cons (me_lc rfl sc_misread.nd (mi_seq (me_v (pv 1))) (own := [("letter", 2), ("sign", 3)]) (blkOk_by (by kernel_rfl)) (by decide) (fun _ _ _ _ _ => (mg_tup rfl (mgs_cons (mg_name (i := 2) sc_misread.nd rfl (by first | exact .inl rfl | exact .inr rfl)) (mgs_cons (mg_name (i := 3) sc_misread.nd rfl (by first | exact .inl rfl | exact .inr rfl)) mgs_nil)))) (fun _ _ _ _ _ => (mts_one (mt_cmp (oc_eq hr.units) (me_callH h_places_in_both (hr.mono (by decide)) (by rfl) (ma_cons (me_v (pv 0)) (ma_cons (me_v (pv 3)) ma_nil))) me_int))) (fun _ _ _ _ _ => (me_v (pv 2)))) ma_nil)) ma_nil))))
theorem ok_turned_sign (T : Tx K mg)  : Has Pr w K mg base "turned_sign" s_turned_sign ["sign", "eighths"] 1 [false, false] f_turned_sign := by
  obtain ⟨f, fd, hm, F, b⟩ := T.d_turned_sign
  obtain ⟨t_PLACES, T_PLACES⟩ := T.c_PLACES
  refine ⟨f, fd, hm, F, b, fn_ok F sc_turned_sign rfl rfl fun cdv A outer s H E hr => ?_⟩
  exact (mss_cons (ms_asg (me_callB (cb_sorted hr.units) (by rfl) T.b_sorted (by rfl) (ma_cons (me_lc rfl sc_turned_sign.nd (mi_seq (me_v (pv 0))) (own := [("place", 4)]) (blkOk_by (by kernel_rfl)) (by decide) (fun _ _ _ _ _ => (mg_name (i := 4) sc_turned_sign.nd rfl (by first | exact .inl rfl | exact .inr rfl))) (fun _ _ _ _ _ => mts_nil) (fun _ _ _ _ _ => (me_op ob_mod (me_op ob_add (me_v (pv 4)) (me_v (pv 1))) (me_gInt (by rfl) T_PLACES)))) ma_nil)) (mg_tup rfl (mgs_cons (mg_name (i := 2) sc_turned_sign.nd rfl (by first | exact .inl rfl | exact .inr rfl)) (mgs_cons (mg_name (i := 3) sc_turned_sign.nd rfl (by first | exact .inl rfl | exact .inr rfl)) mgs_nil))))
    (mss_one (ms_ret (me_tup (ma_cons (me_v (pv 2)) (ma_cons (me_v (pv 3)) ma_nil))))))
theorem ok_seen_from_behind (T : Tx K mg)  : Has Pr w K mg base "seen_from_behind" s_seen_from_behind ["sign"] 1 [false] f_seen_from_behind := by
  obtain ⟨f, fd, hm, F, b⟩ := T.d_seen_from_behind
  obtain ⟨t_PLACES, T_PLACES⟩ := T.c_PLACES
  refine ⟨f, fd, hm, F, b, fn_ok F sc_seen_from_behind rfl rfl fun cdv A outer s H E hr => ?_⟩
  exact (mss_cons (ms_asg (me_callB (cb_sorted hr.units) (by rfl) T.b_sorted (by rfl) (ma_cons (me_lc rfl sc_seen_from_behind.nd (mi_seq (me_v (pv 0))) (own := [("place", 3)]) (blkOk_by (by kernel_rfl)) (by decide) (fun _ _ _ _ _ => (mg_name (i := 3) sc_seen_from_behind.nd rfl (by first | exact .inl rfl | exact .inr rfl))) (fun _ _ _ _ _ => mts_nil) (fun _ _ _ _ _ => (me_op ob_mod (me_un ou_neg (me_v (pv 3))) (me_gInt (by rfl) T_PLACES)))) ma_nil)) (mg_tup rfl (mgs_cons (mg_name (i := 1) sc_seen_from_behind.nd rfl (by first | exact .inl rfl | exact .inr rfl)) (mgs_cons (mg_name (i := 2) sc_seen_from_behind.nd rfl (by first | exact .inl rfl | exact .inr rfl)) mgs_nil))))
    (mss_one (ms_ret (me_tup (ma_cons (me_v (pv 1)) (ma_cons (me_v (pv 2)) ma_nil))))))
theorem ok_letters_alike_behind (T : Tx K mg) (h_seen_from_behind : Has Pr w K mg base "seen_from_behind" s_seen_from_behind ["sign"] 1 [false] f_seen_from_behind) : Has Pr w K mg base "letters_alike_behind" s_letters_alike_behind ["code"] 2 [false] f_letters_alike_behind := by
  obtain ⟨f, fd, hm, F, b⟩ := T.d_letters_alike_behind
  refine ⟨f, fd, hm, F, b, fn_ok F sc_letters_alike_behind rfl rfl fun cdv A outer s H E hr => ?_⟩
  exact (mss_cons (ms_set (i := 1) (own := true) sc_letters_alike_behind.nd rfl (by first | exact .inl rfl | exact .inr rfl) (me_lst ma_nil))
    (mss_cons (ms_for rfl (mi_seq (me_v (pv 0))) (mg_tup rfl (mgs_cons (mg_name (i := 2) sc_letters_alike_behind.nd rfl (by first | exact .inl rfl | exact .inr rfl)) (mgs_cons (mg_name (i := 3) sc_letters_alike_behind.nd rfl (by first | exact .inl rfl | exact .inr rfl)) mgs_nil)))
    (mss_one (ms_for rfl (mi_seq (me_v (pv 0))) (mg_tup rfl (mgs_cons (mg_name (i := 4) sc_letters_alike_behind.nd rfl (by first | exact .inl rfl | exact .inr rfl)) (mgs_cons (mg_name (i := 5) sc_letters_alike_behind.nd rfl (by first | exact .inl rfl | exact .inr rfl)) mgs_nil)))
    (mss_one (ms_if (mt_w (mw_and (mt_cmp oc_lt (me_v (pv 2)) (me_v (pv 4))) (mw_and1 (mt_cmp (oc_eq hr.units) (me_callH h_seen_from_behind (hr.mono (by decide)) (by rfl) (ma_cons (me_v (pv 3)) ma_nil)) (me_v (pv 5))))))
    (mss_one (ms_expr (me_append (pv 1) (ma_cons (me_tup (ma_cons (me_v (pv 2)) (ma_cons (me_v (pv 4)) ma_nil))) ma_nil))))
    mss_nil)) PassesOwn.never)) PassesOwn.never)
    (mss_one (ms_ret (me_callT cb_tuple (by rfl) T.b_tuple (by rfl) (ma_cons (me_callB (cb_sorted hr.units) (by rfl) T.b_sorted (by rfl) (ma_cons (me_v (pv 1)) ma_nil)) ma_nil))))))
theorem ok__law_draws (T : Tx K mg)  : Has Pr w K mg base "_law_draws" s__law_draws ["script", "many"] 1 [false, false] f__law_draws := by
  obtain ⟨f, fd, hm, F, b⟩ := T.d__law_draws
  refine ⟨f, fd, hm, F, b, fn_ok F sc__law_draws rfl rfl fun cdv A outer s H E hr => ?_⟩
  exact (mss_cons (ms_setLc (i := 2) (ow := true) rfl sc__law_draws.nd rfl (by rfl) (sw_true rfl (by rfl) rfl (by rfl)) (mi_seq (me_v (pv 0))) (own := [("cell", 8)]) (blkOk_by (by kernel_rfl)) (by decide) (fun _ _ _ _ _ => (mg_name (i := 8) sc__law_draws.nd rfl (by first | exact .inl rfl | exact .inr rfl))) (fun _ _ _ _ _ => mts_nil) (fun _ _ _ _ _ => (me_callT cb_int (by rfl) T.b_int (by rfl) (ma_cons (me_v (pv 8)) ma_nil))))
    (mss_cons (ms_if (mt_cmp (oc_eq hr.units) (me_callB cb_len (by rfl) T.b_len (by rfl) (ma_cons (me_v (pv 2)) ma_nil)) me_int)
    (mss_one (ms_expr (me_append (pv 2) (ma_cons me_int ma_nil))))
    mss_nil)
    (mss_cons (ms_set (i := 3) (own := true) sc__law_draws.nd rfl (by first | exact .inl rfl | exact .inr rfl) (me_callT cb_list (by rfl) T.b_list (by rfl) (ma_cons (me_v (pv 2)) ma_nil)))
    (mss_cons (ms_set (i := 4) (own := true) sc__law_draws.nd rfl (by first | exact .inl rfl | exact .inr rfl) (me_lst ma_nil))
    (mss_cons (ms_for rfl (mi_range1 (by rfl) T.b_range (ma_cons (me_v (pv 1)) ma_nil)) (mg_name (i := 5) sc__law_draws.nd rfl (by first | exact .inl rfl | exact .inr rfl))
    (mss_cons (ms_set (i := 6) (own := false) sc__law_draws.nd rfl (by first | exact .inl rfl | exact .inr rfl) (me_op ob_mod (me_v (pv 5)) (me_callB cb_len (by rfl) T.b_len (by rfl) (ma_cons (me_v (pv 2)) ma_nil))))
    (mss_one (ms_if (mt_w (mw_and (mt_cmp oc_ge (me_ix hr.units (me_v (pv 2)) (me_v (pv 6))) (me_op ob_pow me_int me_int)) (mw_and1 (mt_cmp oc_gt (me_ix hr.units (me_v (pv 3)) (me_v (pv 6))) me_int))))
    (mss_cons (ms_expr (me_append (pv 4) (ma_cons (me_op ob_mod (me_callT cb_int (by rfl) T.b_int (by rfl) (ma_cons (me_ix hr.units (me_v (pv 3)) (me_v (pv 6))) ma_nil)) me_int) ma_nil)))
    (mss_one (ms_asg (me_op ob_div (me_ix hr.units (me_v (pv 3)) (me_v (pv 6))) me_int) (mg_sub (pv 3) (me_v (pv 6)) set_list st_list))))
    (mss_cons (ms_set (i := 7) (own := false) sc__law_draws.nd rfl (by first | exact .inl rfl | exact .inr rfl) (me_op ob_mod (me_callT cb_int (by rfl) T.b_int (by rfl) (ma_cons (me_op ob_add (me_op ob_add (me_op ob_mul (me_ix hr.units (me_v (pv 2)) (me_v (pv 6))) me_int) (me_op ob_mul (me_v (pv 5)) me_int)) me_int) ma_nil)) me_int))
    (mss_one (ms_expr (me_append (pv 4) (ma_cons (me_op ob_mod (me_callT cb_int (by rfl) T.b_int (by rfl) (ma_cons (me_op ob_add (me_op ob_add (me_op ob_mul (me_v (pv 7)) (me_v (pv 7))) (me_op ob_mul me_int (me_v (pv 7)))) (me_v (pv 5))) ma_nil)) me_int) ma_nil)))))))) PassesOwn.never)
    (mss_cons (ms_expr (me_reverse (pv 4)))
    (mss_one (ms_ret (me_v (pv 4))))))))))
theorem ok__law_take (T : Tx K mg)  : Has Pr w K mg base "_law_take" s__law_take ["draws", "many"] 1 [true, false] f__law_take := by
  obtain ⟨f, fd, hm, F, b⟩ := T.d__law_take
  refine ⟨f, fd, hm, F, b, fn_ok F sc__law_take rfl rfl fun cdv A outer s H E hr => ?_⟩
  exact (mss_cons (ms_if (mt_cmp (oc_eq hr.units) (me_callB cb_len (by rfl) T.b_len (by rfl) (ma_cons (me_v (pv 0)) ma_nil)) me_int)
    (mss_one (ms_ret me_int))
    mss_nil)
    (mss_one (ms_ret (me_op ob_mod (me_callT cb_int (by rfl) T.b_int (by rfl) (ma_cons (me_pop (pv 0)) ma_nil)) (me_v (pv 1))))))
theorem ok__law_sameN (T : Tx K mg)  : ∀ j : Nat, Has Pr w K mg base "_law_same" s__law_same ["actual", "due"] (1 + j) [false, false] (f__law_sameN j)
  | 0 => by
    obtain ⟨f, fd, hm, F, b⟩ := T.d__law_same
    exact ⟨f, fd, hm, F, b, ⟨fun vs H Q E h => (by obtain ⟨_, _, _, _, _, _, _, e, _⟩ := h; cases e), fun _ _ _ _ _ _ _ _ _ _ _ _ _ h => (by obtain ⟨_, _, _, _, _, _, _, e, _⟩ := h; cases e)⟩⟩
  | j + 1 => by
    have hrec := ok__law_sameN T  j
    obtain ⟨f, fd, hm, F, b⟩ := T.d__law_same
    refine ⟨f, fd, hm, F, b, fn_ok F sc__law_same rfl rfl fun cdv A outer s H E hr => ?_⟩
    exact (mss_cons (ms_if (mt_val (me_callB cb_isi (by rfl) T.b_isinstance (by rfl) (ma_cons (me_v (pv 1)) (ma_cons (me_ty (by rfl) T.b_bool (by rfl)) ma_nil))))
    (mss_one (ms_ret (me_and (me_callB cb_isi (by rfl) T.b_isinstance (by rfl) (ma_cons (me_v (pv 0)) (ma_cons (me_ty (by rfl) T.b_bool (by rfl)) ma_nil))) (me_one (me_cmp (oc_eq hr.units) (me_v (pv 0)) (me_v (pv 1)))))))
    mss_nil)
    (mss_cons (ms_if (mt_val (me_callB cb_isi (by rfl) T.b_isinstance (by rfl) (ma_cons (me_v (pv 1)) (ma_cons (me_ty (by rfl) T.b_int (by rfl)) ma_nil))))
    (mss_one (ms_ret (me_and (me_callB cb_isi (by rfl) T.b_isinstance (by rfl) (ma_cons (me_v (pv 0)) (ma_cons (me_ty (by rfl) T.b_int (by rfl)) ma_nil))) (me_and (me_not (me_callB cb_isi (by rfl) T.b_isinstance (by rfl) (ma_cons (me_v (pv 0)) (ma_cons (me_ty (by rfl) T.b_bool (by rfl)) ma_nil)))) (me_one (me_cmp (oc_eq hr.units) (me_v (pv 0)) (me_v (pv 1))))))))
    mss_nil)
    (mss_cons (ms_if (mt_val (me_callB cb_isi (by rfl) T.b_isinstance (by rfl) (ma_cons (me_v (pv 1)) (ma_cons (me_ty (by rfl) T.b_str (by rfl)) ma_nil))))
    (mss_one (ms_ret (me_and (me_callB cb_isi (by rfl) T.b_isinstance (by rfl) (ma_cons (me_v (pv 0)) (ma_cons (me_ty (by rfl) T.b_str (by rfl)) ma_nil))) (me_one (me_cmp (oc_eq hr.units) (me_v (pv 0)) (me_v (pv 1)))))))
    mss_nil)
    (mss_cons (ms_if (mt_cmp oc_isN (me_v (pv 1)) me_non)
    (mss_one (ms_ret (me_cmp oc_isN (me_v (pv 0)) me_non)))
    mss_nil)
    (mss_cons (ms_if (mt_w (mw_or (mt_not (mt_val (me_callB cb_isi (by rfl) T.b_isinstance (by rfl) (ma_cons (me_v (pv 0)) (ma_cons (me_ty (by rfl) T.b_tuple (by rfl)) ma_nil))))) (mw_or1 (mt_cmp (oc_ne hr.units) (me_callB cb_len (by rfl) T.b_len (by rfl) (ma_cons (me_v (pv 0)) ma_nil)) (me_callB cb_len (by rfl) T.b_len (by rfl) (ma_cons (me_v (pv 1)) ma_nil))))))
    (mss_one (ms_ret me_bl))
    mss_nil)
    (mss_cons (ms_for rfl (mi_range1 (by rfl) T.b_range (ma_cons (me_callB cb_len (by rfl) T.b_len (by rfl) (ma_cons (me_v (pv 1)) ma_nil)) ma_nil)) (mg_name (i := 2) sc__law_same.nd rfl (by first | exact .inl rfl | exact .inr rfl))
    (mss_one (ms_if (mt_not (mt_val (me_callH hrec hr (by rfl) (ma_cons (me_ix hr.units (me_v (pv 0)) (me_v (pv 2))) (ma_cons (me_ix hr.units (me_v (pv 1)) (me_v (pv 2))) ma_nil)))))
    (mss_one (ms_ret me_bl))
    mss_nil)) PassesOwn.never)
    (mss_one (ms_ret me_bl))))))))
theorem ok__law_same (T : Tx K mg)  : Has Pr w K mg base "_law_same" s__law_same ["actual", "due"] 7 [false, false] f__law_same := ok__law_sameN T  6
theorem ok__law_size (T : Tx K mg) (h__law_take : Has Pr w K mg base "_law_take" s__law_take ["draws", "many"] 1 [true, false] f__law_take) : Has Pr w K mg base "_law_size" s__law_size ["draws", "script"] 2 [true, false] f__law_size := by
  obtain ⟨f, fd, hm, F, b⟩ := T.d__law_size
  refine ⟨f, fd, hm, F, b, fn_ok F sc__law_size rfl rfl fun cdv A outer s H E hr => ?_⟩
  exact (mss_cons (ms_set (i := 2) (own := false) sc__law_size.nd rfl (by first | exact .inl rfl | exact .inr rfl) (me_callH h__law_take (hr.mono (by decide)) (by rfl) (ma_cons (me_v (pv 0)) (ma_cons me_int ma_nil))))
    (mss_cons (ms_set (i := 3) (own := false) sc__law_size.nd rfl (by first | exact .inl rfl | exact .inr rfl) (me_callH h__law_take (hr.mono (by decide)) (by rfl) (ma_cons (me_v (pv 0)) (ma_cons me_int ma_nil))))
    (mss_cons (ms_if (mt_cmp (oc_eq hr.units) (me_v (pv 2)) me_int)
    (mss_one (ms_set (i := 3) (own := false) sc__law_size.nd rfl (by first | exact .inl rfl | exact .inr rfl) (me_op ob_add (me_v (pv 3)) (me_op ob_mul (me_op ob_add me_int (me_callH h__law_take (hr.mono (by decide)) (by rfl) (ma_cons (me_v (pv 0)) (ma_cons me_int ma_nil)))) (me_op ob_pow me_int me_int)))))
    mss_nil)
    (mss_cons (ms_if (mt_w (mw_and (mt_cmp (oc_eq hr.units) (me_v (pv 2)) me_int) (mw_and1 (mt_cmp oc_gt (me_callB cb_len (by rfl) T.b_len (by rfl) (ma_cons (me_v (pv 1)) ma_nil)) me_int))))
    (mss_one (ms_set (i := 3) (own := false) sc__law_size.nd rfl (by first | exact .inl rfl | exact .inr rfl) (me_op ob_add (me_v (pv 3)) (me_op ob_mod (me_callT cb_int (by rfl) T.b_int (by rfl) (ma_cons (me_callB cb_abs (by rfl) T.b_abs (by rfl) (ma_cons (me_callT cb_int (by rfl) T.b_int (by rfl) (ma_cons (me_ix hr.units (me_v (pv 1)) (me_callH h__law_take (hr.mono (by decide)) (by rfl) (ma_cons (me_v (pv 0)) (ma_cons (me_callB cb_len (by rfl) T.b_len (by rfl) (ma_cons (me_v (pv 1)) ma_nil)) ma_nil)))) ma_nil)) ma_nil)) ma_nil)) (me_op ob_pow me_int me_int)))))
    mss_nil)
    (mss_cons (ms_if (mt_cmp (oc_eq hr.units) (me_v (pv 2)) me_int)
    (mss_one (ms_set (i := 3) (own := false) sc__law_size.nd rfl (by first | exact .inl rfl | exact .inr rfl) (me_op ob_add (me_op ob_mul (me_v (pv 3)) me_int) (me_callH h__law_take (hr.mono (by decide)) (by rfl) (ma_cons (me_v (pv 0)) (ma_cons me_int ma_nil))))))
    mss_nil)
    (mss_one (ms_ret (me_v (pv 3)))))))))
theorem ok__law_eighths (T : Tx K mg)  : Has Pr w K mg base "_law_eighths" s__law_eighths ["one", "other"] 1 [false, false] f__law_eighths := by
  obtain ⟨f, fd, hm, F, b⟩ := T.d__law_eighths
  refine ⟨f, fd, hm, F, b, fn_ok F sc__law_eighths rfl rfl fun cdv A outer s H E hr => ?_⟩
  exact (mss_one (ms_ret (me_callB (cb_min rfl hr.units) (by rfl) T.b_min (by rfl) (ma_cons (me_lc rfl sc__law_eighths.nd (mi_range1 (by rfl) T.b_range (ma_cons me_int ma_nil)) (own := [("k", 2)]) (blkOk_by (by kernel_rfl)) (by decide) (fun _ _ _ _ _ => (mg_name (i := 2) sc__law_eighths.nd rfl (by first | exact .inl rfl | exact .inr rfl))) (fun _ _ _ _ _ => (mts_one (mt_w (mw_or (mt_cmp (oc_eq hr.units) (me_op ob_mod (me_callT cb_int (by rfl) T.b_int (by rfl) (ma_cons (me_op ob_add (me_v (pv 0)) (me_v (pv 2))) ma_nil)) me_int) (me_v (pv 1))) (mw_or1 (mt_cmp (oc_eq hr.units) (me_op ob_mod (me_callT cb_int (by rfl) T.b_int (by rfl) (ma_cons (me_op ob_sub (me_v (pv 0)) (me_v (pv 2))) ma_nil)) me_int) (me_v (pv 1)))))))) (fun _ _ _ _ _ => (me_v (pv 2)))) ma_nil))))
theorem ok__law_moves (T : Tx K mg) (h__law_eighths : Has Pr w K mg base "_law_eighths" s__law_eighths ["one", "other"] 1 [false, false] f__law_eighths) : Has Pr w K mg base "_law_moves" s__law_moves ["one", "other"] 2 [false, false] f__law_moves := by
  obtain ⟨f, fd, hm, F, b⟩ := T.d__law_moves
  refine ⟨f, fd, hm, F, b, fn_ok F sc__law_moves rfl rfl fun cdv A outer s H E hr => ?_⟩
  exact (mss_one (ms_ret (me_callB (cb_min rfl hr.units) (by rfl) T.b_min (by rfl) (ma_cons (me_op ob_add (me_callH h__law_eighths (hr.mono (by decide)) (by rfl) (ma_cons (me_ix hr.units (me_v (pv 0)) me_int) (ma_cons (me_ix hr.units (me_v (pv 1)) me_int) ma_nil))) (me_callH h__law_eighths (hr.mono (by decide)) (by rfl) (ma_cons (me_ix hr.units (me_v (pv 0)) me_int) (ma_cons (me_ix hr.units (me_v (pv 1)) me_int) ma_nil)))) (ma_cons (me_op ob_add (me_callH h__law_eighths (hr.mono (by decide)) (by rfl) (ma_cons (me_ix hr.units (me_v (pv 0)) me_int) (ma_cons (me_ix hr.units (me_v (pv 1)) me_int) ma_nil))) (me_callH h__law_eighths (hr.mono (by decide)) (by rfl) (ma_cons (me_ix hr.units (me_v (pv 0)) me_int) (ma_cons (me_ix hr.units (me_v (pv 1)) me_int) ma_nil)))) ma_nil)))))
theorem ok__law_code (T : Tx K mg) (h__law_take : Has Pr w K mg base "_law_take" s__law_take ["draws", "many"] 1 [true, false] f__law_take) : Has Pr w K mg base "_law_code" s__law_code ["draws", "signs", "many"] 2 [true, false, false] f__law_code := by
  obtain ⟨f, fd, hm, F, b⟩ := T.d__law_code
  refine ⟨f, fd, hm, F, b, fn_ok F sc__law_code rfl rfl fun cdv A outer s H E hr => ?_⟩
  exact (mss_cons (ms_set (i := 3) (own := true) sc__law_code.nd rfl (by first | exact .inl rfl | exact .inr rfl) (me_lc rfl sc__law_code.nd (mi_seq me_str) (own := [("letter", 5)]) (blkOk_by (by kernel_rfl)) (by decide) (fun _ _ _ _ _ => (mg_name (i := 5) sc__law_code.nd rfl (by first | exact .inl rfl | exact .inr rfl))) (fun _ _ _ _ _ => mts_nil) (fun _ _ _ _ _ => (me_v (pv 5)))))
    (mss_cons (ms_set (i := 4) (own := true) sc__law_code.nd rfl (by first | exact .inl rfl | exact .inr rfl) (me_callT cb_list (by rfl) T.b_list (by rfl) (ma_cons (me_v (pv 1)) ma_nil)))
    (mss_one (ms_ret (me_callT cb_tuple (by rfl) T.b_tuple (by rfl) (ma_cons (me_lc rfl sc__law_code.nd (mi_range1 (by rfl) T.b_range (ma_cons (me_v (pv 2)) ma_nil)) (own := [("k", 6)]) (blkOk_by (by kernel_rfl)) (by decide) (fun _ _ _ _ _ => (mg_name (i := 6) sc__law_code.nd rfl (by first | exact .inl rfl | exact .inr rfl))) (fun _ _ _ _ _ => mts_nil) (fun _ _ _ _ _ => (me_tup (ma_cons (me_popAt (pv 3) (ma_cons (me_callH h__law_take (hr.mono (by decide)) (by rfl) (ma_cons (me_v (pv 0)) (ma_cons (me_callB cb_len (by rfl) T.b_len (by rfl) (ma_cons (me_v (pv 3)) ma_nil)) ma_nil))) ma_nil)) (ma_cons (me_popAt (pv 4) (ma_cons (me_callH h__law_take (hr.mono (by decide)) (by rfl) (ma_cons (me_v (pv 0)) (ma_cons (me_callB cb_len (by rfl) T.b_len (by rfl) (ma_cons (me_v (pv 4)) ma_nil)) ma_nil))) ma_nil)) ma_nil))))) ma_nil))))))
theorem ok__law_signs_right (T : Tx K mg) (h__law_moves : Has Pr w K mg base "_law_moves" s__law_moves ["one", "other"] 2 [false, false] f__law_moves) (h__law_same : Has Pr w K mg base "_law_same" s__law_same ["actual", "due"] 7 [false, false] f__law_same) (h__law_size : Has Pr w K mg base "_law_size" s__law_size ["draws", "script"] 2 [true, false] f__law_size) (h__law_take : Has Pr w K mg base "_law_take" s__law_take ["draws", "many"] 1 [true, false] f__law_take) (h_moves_between : Has Pr w K mg base "moves_between" s_moves_between ["one", "other"] 2 [false, false] f_moves_between) (h_seen_from_behind : Has Pr w K mg base "seen_from_behind" s_seen_from_behind ["sign"] 1 [false] f_seen_from_behind) (h_turned_sign : Has Pr w K mg base "turned_sign" s_turned_sign ["sign", "eighths"] 1 [false, false] f_turned_sign) : Has Pr w K mg base "_law_signs_right" s__law_signs_right ["draws", "script", "signs"] 8 [true, false, false] f__law_signs_right := by
  obtain ⟨f, fd, hm, F, b⟩ := T.d__law_signs_right
  refine ⟨f, fd, hm, F, b, fn_ok F sc__law_signs_right rfl rfl fun cdv A outer s H E hr => ?_⟩
  exact (mss_cons (ms_set (i := 3) (own := false) sc__law_signs_right.nd rfl (by first | exact .inl rfl | exact .inr rfl) (me_ix hr.units (me_v (pv 2)) (me_callH h__law_take (hr.mono (by decide)) (by rfl) (ma_cons (me_v (pv 0)) (ma_cons me_int ma_nil)))))
    (mss_cons (ms_set (i := 4) (own := false) sc__law_signs_right.nd rfl (by first | exact .inl rfl | exact .inr rfl) (me_ix hr.units (me_v (pv 2)) (me_callH h__law_take (hr.mono (by decide)) (by rfl) (ma_cons (me_v (pv 0)) (ma_cons me_int ma_nil)))))
    (mss_cons (ms_set (i := 5) (own := false) sc__law_signs_right.nd rfl (by first | exact .inl rfl | exact .inr rfl) (me_ix hr.units (me_v (pv 2)) (me_callH h__law_take (hr.mono (by decide)) (by rfl) (ma_cons (me_v (pv 0)) (ma_cons me_int ma_nil)))))
    (mss_cons (ms_set (i := 6) (own := false) sc__law_signs_right.nd rfl (by first | exact .inl rfl | exact .inr rfl) (me_callH h_moves_between (hr.mono (by decide)) (by rfl) (ma_cons (me_v (pv 3)) (ma_cons (me_v (pv 4)) ma_nil))))
    (mss_cons (ms_if (mt_w (mw_or (mt_not (mt_val (me_callH h__law_same (hr.mono (by decide)) (by rfl) (ma_cons (me_v (pv 6)) (ma_cons (me_callH h__law_moves (hr.mono (by decide)) (by rfl) (ma_cons (me_v (pv 3)) (ma_cons (me_v (pv 4)) ma_nil))) ma_nil))))) (mw_or (mt_not (mt_val (me_callH h__law_same (hr.mono (by decide)) (by rfl) (ma_cons (me_callH h_moves_between (hr.mono (by decide)) (by rfl) (ma_cons (me_v (pv 4)) (ma_cons (me_v (pv 3)) ma_nil))) (ma_cons (me_v (pv 6)) ma_nil))))) (mw_or1 (mt_cmp (oc_ne hr.units) (me_cmp (oc_eq hr.units) (me_v (pv 6)) me_int) (me_cmp (oc_eq hr.units) (me_v (pv 3)) (me_v (pv 4))))))))
    (mss_one (ms_ret me_bl))
    mss_nil)
    (mss_cons (ms_if (mt_w (mw_or (mt_cmp oc_gt (me_v (pv 6)) (me_op ob_add (me_callH h_moves_between (hr.mono (by decide)) (by rfl) (ma_cons (me_v (pv 3)) (ma_cons (me_v (pv 5)) ma_nil))) (me_callH h_moves_between (hr.mono (by decide)) (by rfl) (ma_cons (me_v (pv 5)) (ma_cons (me_v (pv 4)) ma_nil))))) (mw_or1 (mt_cmp oc_gt (me_v (pv 6)) me_int))))
    (mss_one (ms_ret me_bl))
    mss_nil)
    (mss_cons (ms_set (i := 7) (own := false) sc__law_signs_right.nd rfl (by first | exact .inl rfl | exact .inr rfl) (me_ix hr.units (me_lst (ma_cons (me_op ob_sub (me_callH h__law_take (hr.mono (by decide)) (by rfl) (ma_cons (me_v (pv 0)) (ma_cons me_int ma_nil))) me_int) (ma_cons (me_op ob_mul (me_op ob_mod (me_callH h__law_size (hr.mono (by decide)) (by rfl) (ma_cons (me_v (pv 0)) (ma_cons (me_v (pv 1)) ma_nil))) (me_op ob_pow me_int me_int)) (me_op ob_sub me_int (me_op ob_mul me_int (me_callH h__law_take (hr.mono (by decide)) (by rfl) (ma_cons (me_v (pv 0)) (ma_cons me_int ma_nil)))))) ma_nil))) (me_callH h__law_take (hr.mono (by decide)) (by rfl) (ma_cons (me_v (pv 0)) (ma_cons me_int ma_nil)))))
    (mss_cons (ms_set (i := 8) (own := false) sc__law_signs_right.nd rfl (by first | exact .inl rfl | exact .inr rfl) (me_callT cb_tuple (by rfl) T.b_tuple (by rfl) (ma_cons (me_callB (cb_sorted hr.units) (by rfl) T.b_sorted (by rfl) (ma_cons (me_lc rfl sc__law_signs_right.nd (mi_seq (me_v (pv 3))) (own := [("place", 10)]) (blkOk_by (by kernel_rfl)) (by decide) (fun _ _ _ _ _ => (mg_name (i := 10) sc__law_signs_right.nd rfl (by first | exact .inl rfl | exact .inr rfl))) (fun _ _ _ _ _ => mts_nil) (fun _ _ _ _ _ => (me_op ob_mod (me_callT cb_int (by rfl) T.b_int (by rfl) (ma_cons (me_op ob_add (me_v (pv 10)) (me_v (pv 7))) ma_nil)) me_int))) ma_nil)) ma_nil)))
    (mss_cons (ms_set (i := 9) (own := false) sc__law_signs_right.nd rfl (by first | exact .inl rfl | exact .inr rfl) (me_callT cb_tuple (by rfl) T.b_tuple (by rfl) (ma_cons (me_callB (cb_sorted hr.units) (by rfl) T.b_sorted (by rfl) (ma_cons (me_lc rfl sc__law_signs_right.nd (mi_seq (me_v (pv 3))) (own := [("place", 10)]) (blkOk_by (by kernel_rfl)) (by decide) (fun _ _ _ _ _ => (mg_name (i := 10) sc__law_signs_right.nd rfl (by first | exact .inl rfl | exact .inr rfl))) (fun _ _ _ _ _ => mts_nil) (fun _ _ _ _ _ => (me_ix hr.units (me_lst (ma_cons me_int (ma_cons me_int (ma_cons me_int (ma_cons me_int (ma_cons me_int (ma_cons me_int (ma_cons me_int (ma_cons me_int ma_nil))))))))) (me_v (pv 10))))) ma_nil)) ma_nil)))
    (mss_cons (ms_if (mt_w (mw_or (mt_not (mt_val (me_callH h__law_same (hr.mono (by decide)) (by rfl) (ma_cons (me_callH h_turned_sign (hr.mono (by decide)) (by rfl) (ma_cons (me_v (pv 3)) (ma_cons (me_v (pv 7)) ma_nil))) (ma_cons (me_v (pv 8)) ma_nil))))) (mw_or (mt_not (mt_val (me_callH h__law_same (hr.mono (by decide)) (by rfl) (ma_cons (me_callH h_seen_from_behind (hr.mono (by decide)) (by rfl) (ma_cons (me_v (pv 3)) ma_nil)) (ma_cons (me_v (pv 9)) ma_nil))))) (mw_or1 (mt_not (mt_val (me_callH h__law_same (hr.mono (by decide)) (by rfl) (ma_cons (me_callH h_seen_from_behind (hr.mono (by decide)) (by rfl) (ma_cons (me_v (pv 9)) ma_nil)) (ma_cons (me_v (pv 3)) ma_nil)))))))))
    (mss_one (ms_ret me_bl))
    mss_nil)
    (mss_cons (ms_if (mt_w (mw_or (mt_not (mt_val (me_callH h__law_same (hr.mono (by decide)) (by rfl) (ma_cons (me_callH h_turned_sign (hr.mono (by decide)) (by rfl) (ma_cons (me_callH h_turned_sign (hr.mono (by decide)) (by rfl) (ma_cons (me_v (pv 3)) (ma_cons (me_v (pv 7)) ma_nil))) (ma_cons (me_un ou_neg (me_v (pv 7))) ma_nil))) (ma_cons (me_v (pv 3)) ma_nil))))) (mw_or1 (mt_not (mt_val (me_callH h__law_same (hr.mono (by decide)) (by rfl) (ma_cons (me_callH h_turned_sign (hr.mono (by decide)) (by rfl) (ma_cons (me_v (pv 3)) (ma_cons me_int ma_nil))) (ma_cons (me_v (pv 3)) ma_nil))))))))
    (mss_one (ms_ret me_bl))
    mss_nil)
    (mss_cons (ms_if (mt_not (mt_val (me_callH h__law_same (hr.mono (by decide)) (by rfl) (ma_cons (me_callH h_moves_between (hr.mono (by decide)) (by rfl) (ma_cons (me_callH h_turned_sign (hr.mono (by decide)) (by rfl) (ma_cons (me_v (pv 3)) (ma_cons (me_v (pv 7)) ma_nil))) (ma_cons (me_callH h_turned_sign (hr.mono (by decide)) (by rfl) (ma_cons (me_v (pv 4)) (ma_cons (me_v (pv 7)) ma_nil))) ma_nil))) (ma_cons (me_v (pv 6)) ma_nil)))))
    (mss_one (ms_ret me_bl))
    mss_nil)
    (mss_cons (ms_if (mt_not (mt_val (me_callH h__law_same (hr.mono (by decide)) (by rfl) (ma_cons (me_callH h_moves_between (hr.mono (by decide)) (by rfl) (ma_cons (me_callH h_seen_from_behind (hr.mono (by decide)) (by rfl) (ma_cons (me_v (pv 3)) ma_nil)) (ma_cons (me_callH h_seen_from_behind (hr.mono (by decide)) (by rfl) (ma_cons (me_v (pv 4)) ma_nil)) ma_nil))) (ma_cons (me_v (pv 6)) ma_nil)))))
    (mss_one (ms_ret me_bl))
    mss_nil)
    (mss_one (ms_ret (me_callH h__law_same (hr.mono (by decide)) (by rfl) (ma_cons (me_callH h_seen_from_behind (hr.mono (by decide)) (by rfl) (ma_cons (me_callH h_turned_sign (hr.mono (by decide)) (by rfl) (ma_cons (me_v (pv 3)) (ma_cons (me_v (pv 7)) ma_nil))) ma_nil)) (ma_cons (me_callH h_turned_sign (hr.mono (by decide)) (by rfl) (ma_cons (me_callH h_seen_from_behind (hr.mono (by decide)) (by rfl) (ma_cons (me_v (pv 3)) ma_nil)) (ma_cons (me_un ou_neg (me_v (pv 7))) ma_nil))) ma_nil))))))))))))))))))
theorem ok__law_code_right (T : Tx K mg) (h__law_code : Has Pr w K mg base "_law_code" s__law_code ["draws", "signs", "many"] 2 [true, false, false] f__law_code) (h__law_moves : Has Pr w K mg base "_law_moves" s__law_moves ["one", "other"] 2 [false, false] f__law_moves) (h__law_same : Has Pr w K mg base "_law_same" s__law_same ["actual", "due"] 7 [false, false] f__law_same) (h__law_take : Has Pr w K mg base "_law_take" s__law_take ["draws", "many"] 1 [true, false] f__law_take) (h_letters_alike_behind : Has Pr w K mg base "letters_alike_behind" s_letters_alike_behind ["code"] 2 [false] f_letters_alike_behind) (h_misread : Has Pr w K mg base "misread" s_misread ["one", "code"] 2 [false, false] f_misread) (h_moves_of_word : Has Pr w K mg base "moves_of_word" s_moves_of_word ["code", "word"] 3 [false, false] f_moves_of_word) : Has Pr w K mg base "_law_code_right" s__law_code_right ["draws", "signs"] 8 [true, false] f__law_code_right := by
  obtain ⟨f, fd, hm, F, b⟩ := T.d__law_code_right
  refine ⟨f, fd, hm, F, b, fn_ok F sc__law_code_right rfl rfl fun cdv A outer s H E hr => ?_⟩
  exact (mss_cons (ms_set (i := 2) (own := false) sc__law_code_right.nd rfl (by first | exact .inl rfl | exact .inr rfl) (me_callH h__law_code (hr.mono (by decide)) (by rfl) (ma_cons (me_v (pv 0)) (ma_cons (me_v (pv 1)) (ma_cons (me_callH h__law_take (hr.mono (by decide)) (by rfl) (ma_cons (me_v (pv 0)) (ma_cons me_int ma_nil))) ma_nil)))))
    (mss_cons (ms_set (i := 3) (own := false) sc__law_code_right.nd rfl (by first | exact .inl rfl | exact .inr rfl) (me_callT (cb_dict rfl) (by rfl) T.b_dict (by rfl) (ma_cons (me_v (pv 2)) ma_nil)))
    (mss_cons (ms_set (i := 4) (own := false) sc__law_code_right.nd rfl (by first | exact .inl rfl | exact .inr rfl) (me_m PySem.F.plainAttrs_str PySem.F.slot_str_join PySem.F.type_str_join mt_joinD me_str (ma_cons (me_lc rfl sc__law_code_right.nd (mi_range1 (by rfl) T.b_range (ma_cons (me_op ob_mul (me_callH h__law_take (hr.mono (by decide)) (by rfl) (ma_cons (me_v (pv 0)) (ma_cons me_int ma_nil))) (me_callT cb_int (by rfl) T.b_int (by rfl) (ma_cons (me_cmp oc_gt (me_callB cb_len (by rfl) T.b_len (by rfl) (ma_cons (me_v (pv 2)) ma_nil)) me_int) ma_nil))) ma_nil)) (own := [("k", 6)]) (blkOk_by (by kernel_rfl)) (by decide) (fun _ _ _ _ _ => (mg_name (i := 6) sc__law_code_right.nd rfl (by first | exact .inl rfl | exact .inr rfl))) (fun _ _ _ _ _ => mts_nil) (fun _ _ _ _ _ => (me_ix hr.units (me_ix hr.units (me_v (pv 2)) (me_callH h__law_take (hr.mono (by decide)) (by rfl) (ma_cons (me_v (pv 0)) (ma_cons (me_callB cb_len (by rfl) T.b_len (by rfl) (ma_cons (me_v (pv 2)) ma_nil)) ma_nil)))) me_int))) ma_nil)))
    (mss_cons (ms_set (i := 5) (own := false) sc__law_code_right.nd rfl (by first | exact .inl rfl | exact .inr rfl) me_int)
    (mss_cons (ms_for rfl (mi_range2 (by rfl) T.b_range (ma_cons me_int (ma_cons (me_callB cb_len (by rfl) T.b_len (by rfl) (ma_cons (me_v (pv 4)) ma_nil)) ma_nil))) (mg_name (i := 6) sc__law_code_right.nd rfl (by first | exact .inl rfl | exact .inr rfl))
    (mss_one (ms_set (i := 5) (own := false) sc__law_code_right.nd rfl (by first | exact .inl rfl | exact .inr rfl) (me_op ob_add (me_v (pv 5)) (me_callH h__law_moves (hr.mono (by decide)) (by rfl) (ma_cons (me_ix hr.units (me_v (pv 3)) (me_ix hr.units (me_v (pv 4)) (me_op ob_sub (me_v (pv 6)) me_int))) (ma_cons (me_ix hr.units (me_v (pv 3)) (me_ix hr.units (me_v (pv 4)) (me_v (pv 6)))) ma_nil)))))) PassesOwn.never)
    (mss_cons (ms_if (mt_w (mw_or (mt_not (mt_val (me_callH h__law_same (hr.mono (by decide)) (by rfl) (ma_cons (me_callH h_moves_of_word (hr.mono (by decide)) (by rfl) (ma_cons (me_v (pv 2)) (ma_cons (me_v (pv 4)) ma_nil))) (ma_cons (me_v (pv 5)) ma_nil))))) (mw_or (mt_not (mt_val (me_callH h__law_same (hr.mono (by decide)) (by rfl) (ma_cons (me_callH h_moves_of_word (hr.mono (by decide)) (by rfl) (ma_cons (me_v (pv 2)) (ma_cons (me_rev (me_v (pv 4))) ma_nil))) (ma_cons (me_v (pv 5)) ma_nil))))) (mw_or1 (mt_cmp oc_notN (me_callH h_moves_of_word (hr.mono (by decide)) (by rfl) (ma_cons (me_v (pv 2)) (ma_cons (me_op ob_add (me_v (pv 4)) me_str) ma_nil))) me_non)))))
    (mss_one (ms_ret me_bl))
    mss_nil)
    (mss_cons (ms_set (i := 7) (own := false) sc__law_code_right.nd rfl (by first | exact .inl rfl | exact .inr rfl) (me_ix hr.units (me_v (pv 1)) (me_callH h__law_take (hr.mono (by decide)) (by rfl) (ma_cons (me_v (pv 0)) (ma_cons me_int ma_nil)))))
    (mss_cons (ms_set (i := 8) (own := false) sc__law_code_right.nd rfl (by first | exact .inl rfl | exact .inr rfl) (me_callB (cb_sorted hr.units) (by rfl) T.b_sorted (by rfl) (ma_cons (me_lc rfl sc__law_code_right.nd (mi_seq (me_v (pv 2))) (own := [("letter", 10), ("own", 11)]) (blkOk_by (by kernel_rfl)) (by decide) (fun _ _ _ _ _ => (mg_tup rfl (mgs_cons (mg_name (i := 10) sc__law_code_right.nd rfl (by first | exact .inl rfl | exact .inr rfl)) (mgs_cons (mg_name (i := 11) sc__law_code_right.nd rfl (by first | exact .inl rfl | exact .inr rfl)) mgs_nil)))) (fun _ _ _ _ _ => (mts_one (mt_cmp (oc_eq hr.units) (me_lenSet rfl (by rfl) T.b_len (by rfl) T.b_set (me_op ob_add (me_v (pv 11)) (me_v (pv 7)))) me_int))) (fun _ _ _ _ _ => (me_v (pv 10)))) ma_nil)))
    (mss_cons (ms_if (mt_not (mt_val (me_callH h__law_same (hr.mono (by decide)) (by rfl) (ma_cons (me_callH h_misread (hr.mono (by decide)) (by rfl) (ma_cons (me_v (pv 7)) (ma_cons (me_v (pv 2)) ma_nil))) (ma_cons (me_callT cb_tuple (by rfl) T.b_tuple (by rfl) (ma_cons (me_v (pv 8)) ma_nil)) ma_nil)))))
    (mss_one (ms_ret me_bl))
    mss_nil)
    (mss_cons (ms_set (i := 9) (own := true) sc__law_code_right.nd rfl (by first | exact .inl rfl | exact .inr rfl) (me_lst ma_nil))
    (mss_cons (ms_for rfl (mi_seq (me_v (pv 2))) (mg_tup rfl (mgs_cons (mg_name (i := 10) sc__law_code_right.nd rfl (by first | exact .inl rfl | exact .inr rfl)) (mgs_cons (mg_name (i := 11) sc__law_code_right.nd rfl (by first | exact .inl rfl | exact .inr rfl)) mgs_nil)))
    (mss_one (ms_for rfl (mi_seq (me_v (pv 2))) (mg_tup rfl (mgs_cons (mg_name (i := 12) sc__law_code_right.nd rfl (by first | exact .inl rfl | exact .inr rfl)) (mgs_cons (mg_name (i := 7) sc__law_code_right.nd rfl (by first | exact .inl rfl | exact .inr rfl)) mgs_nil)))
    (mss_one (ms_if (mt_w (mw_and (mt_cmp oc_lt (me_v (pv 10)) (me_v (pv 12))) (mw_and1 (mt_cmp (oc_eq hr.units) (me_callB (cb_sorted hr.units) (by rfl) T.b_sorted (by rfl) (ma_cons (me_lc rfl sc__law_code_right.nd (mi_seq (me_v (pv 11))) (own := [("place", 13)]) (blkOk_by (by kernel_rfl)) (by decide) (fun _ _ _ _ _ => (mg_name (i := 13) sc__law_code_right.nd rfl (by first | exact .inl rfl | exact .inr rfl))) (fun _ _ _ _ _ => mts_nil) (fun _ _ _ _ _ => (me_op ob_mod (me_callT cb_int (by rfl) T.b_int (by rfl) (ma_cons (me_op ob_sub me_int (me_v (pv 13))) ma_nil)) me_int))) ma_nil)) (me_callT cb_list (by rfl) T.b_list (by rfl) (ma_cons (me_v (pv 7)) ma_nil))))))
    (mss_one (ms_expr (me_append (pv 9) (ma_cons (me_tup (ma_cons (me_v (pv 10)) (ma_cons (me_v (pv 12)) ma_nil))) ma_nil))))
    mss_nil)) PassesOwn.never)) PassesOwn.never)
    (mss_one (ms_ret (me_callH h__law_same (hr.mono (by decide)) (by rfl) (ma_cons (me_callH h_letters_alike_behind (hr.mono (by decide)) (by rfl) (ma_cons (me_v (pv 2)) ma_nil)) (ma_cons (me_callT cb_tuple (by rfl) T.b_tuple (by rfl) (ma_cons (me_callB (cb_sorted hr.units) (by rfl) T.b_sorted (by rfl) (ma_cons (me_v (pv 9)) ma_nil)) ma_nil)) ma_nil))))))))))))))))
theorem ok_law (T : Tx K mg) (h__law_code_right : Has Pr w K mg base "_law_code_right" s__law_code_right ["draws", "signs"] 8 [true, false] f__law_code_right) (h__law_draws : Has Pr w K mg base "_law_draws" s__law_draws ["script", "many"] 1 [false, false] f__law_draws) (h__law_same : Has Pr w K mg base "_law_same" s__law_same ["actual", "due"] 7 [false, false] f__law_same) (h__law_signs_right : Has Pr w K mg base "_law_signs_right" s__law_signs_right ["draws", "script", "signs"] 8 [true, false, false] f__law_signs_right) (h_all_signs : Has Pr w K mg base "all_signs" s_all_signs [] 1 [] f_all_signs) (h_letters_alike_behind : Has Pr w K mg base "letters_alike_behind" s_letters_alike_behind ["code"] 2 [false] f_letters_alike_behind) (h_misread : Has Pr w K mg base "misread" s_misread ["one", "code"] 2 [false, false] f_misread) (h_moves_between : Has Pr w K mg base "moves_between" s_moves_between ["one", "other"] 2 [false, false] f_moves_between) (h_moves_of_word : Has Pr w K mg base "moves_of_word" s_moves_of_word ["code", "word"] 3 [false, false] f_moves_of_word) (h_seen_from_behind : Has Pr w K mg base "seen_from_behind" s_seen_from_behind ["sign"] 1 [false] f_seen_from_behind) (h_turned_sign : Has Pr w K mg base "turned_sign" s_turned_sign ["sign", "eighths"] 1 [false, false] f_turned_sign) : Has Pr w K mg base "law" s_law ["script"] 9 [false] f_law := by
  obtain ⟨f, fd, hm, F, b⟩ := T.d_law
  refine ⟨f, fd, hm, F, b, fn_ok F sc_law rfl rfl fun cdv A outer s H E hr => ?_⟩
  exact (mss_cons (ms_set (i := 1) (own := true) sc_law.nd rfl (by first | exact .inl rfl | exact .inr rfl) (me_callH h__law_draws (hr.mono (by decide)) (by rfl) (ma_cons (me_v (pv 0)) (ma_cons me_int ma_nil))))
    (mss_cons (ms_set (i := 2) (own := false) sc_law.nd rfl (by first | exact .inl rfl | exact .inr rfl) (me_lst ma_nil))
    (mss_cons (ms_for rfl (mi_range1 (by rfl) T.b_range (ma_cons me_int ma_nil)) (mg_name (i := 3) sc_law.nd rfl (by first | exact .inl rfl | exact .inr rfl))
    (mss_one (ms_set (i := 2) (own := false) sc_law.nd rfl (by first | exact .inl rfl | exact .inr rfl) (me_op ob_add (me_v (pv 2)) (me_lc rfl sc_law.nd (mi_range2 (by rfl) T.b_range (ma_cons (me_op ob_add (me_v (pv 3)) me_int) (ma_cons me_int ma_nil))) (own := [("other", 6)]) (blkOk_by (by kernel_rfl)) (by decide) (fun _ _ _ _ _ => (mg_name (i := 6) sc_law.nd rfl (by first | exact .inl rfl | exact .inr rfl))) (fun _ _ _ _ _ => mts_nil) (fun _ _ _ _ _ => (me_tup (ma_cons (me_v (pv 3)) (ma_cons (me_v (pv 6)) ma_nil)))))))) PassesOwn.never)
    (mss_cons (ms_if (mt_not (mt_val (me_callH h__law_same (hr.mono (by decide)) (by rfl) (ma_cons (me_callH0 h_all_signs (hr.mono (by decide)) (by rfl)) (ma_cons (me_callT cb_tuple (by rfl) T.b_tuple (by rfl) (ma_cons (me_v (pv 2)) ma_nil)) ma_nil)))))
    (mss_one (ms_ret me_bl))
    mss_nil)
    (mss_cons (ms_for rfl (mi_range1 (by rfl) T.b_range (ma_cons me_int ma_nil)) (mg_name (i := 4) sc_law.nd rfl (by first | exact .inl rfl | exact .inr rfl))
    (mss_one (ms_if (mt_w (mw_or (mt_not (mt_val (me_callH h__law_signs_right (hr.mono (by decide)) (by rfl) (ma_cons (me_v (pv 1)) (ma_cons (me_v (pv 0)) (ma_cons (me_v (pv 2)) ma_nil)))))) (mw_or1 (mt_not (mt_val (me_callH h__law_code_right (hr.mono (by decide)) (by rfl) (ma_cons (me_v (pv 1)) (ma_cons (me_v (pv 2)) ma_nil))))))))
    (mss_one (ms_ret me_bl))
    mss_nil)) PassesOwn.never)
    (mss_cons (ms_set (i := 5) (own := false) sc_law.nd rfl (by first | exact .inl rfl | exact .inr rfl) (me_tup (ma_cons (me_tup (ma_cons me_str (ma_cons (me_tup (ma_cons me_int (ma_cons me_int ma_nil))) ma_nil))) (ma_cons (me_tup (ma_cons me_str (ma_cons (me_tup (ma_cons me_int (ma_cons me_int ma_nil))) ma_nil))) (ma_cons (me_tup (ma_cons me_str (ma_cons (me_tup (ma_cons me_int (ma_cons me_int ma_nil))) ma_nil))) (ma_cons (me_tup (ma_cons me_str (ma_cons (me_tup (ma_cons me_int (ma_cons me_int ma_nil))) ma_nil))) ma_nil))))))
    (mss_cons (ms_if (mt_w (mw_or (mt_not (mt_val (me_callH h__law_same (hr.mono (by decide)) (by rfl) (ma_cons (me_callH h_moves_between (hr.mono (by decide)) (by rfl) (ma_cons (me_tup (ma_cons me_int (ma_cons me_int ma_nil))) (ma_cons (me_tup (ma_cons me_int (ma_cons me_int ma_nil))) ma_nil))) (ma_cons me_int ma_nil))))) (mw_or (mt_not (mt_val (me_callH h__law_same (hr.mono (by decide)) (by rfl) (ma_cons (me_callH h_moves_between (hr.mono (by decide)) (by rfl) (ma_cons (me_tup (ma_cons me_int (ma_cons me_int ma_nil))) (ma_cons (me_tup (ma_cons me_int (ma_cons me_int ma_nil))) ma_nil))) (ma_cons me_int ma_nil))))) (mw_or1 (mt_not (mt_val (me_callH h__law_same (hr.mono (by decide)) (by rfl) (ma_cons (me_callH h_moves_between (hr.mono (by decide)) (by rfl) (ma_cons (me_tup (ma_cons me_int (ma_cons me_int ma_nil))) (ma_cons (me_tup (ma_cons me_int (ma_cons me_int ma_nil))) ma_nil))) (ma_cons me_int ma_nil)))))))))
    (mss_one (ms_ret me_bl))
    mss_nil)
    (mss_cons (ms_if (mt_w (mw_or (mt_not (mt_val (me_callH h__law_same (hr.mono (by decide)) (by rfl) (ma_cons (me_callH h_moves_of_word (hr.mono (by decide)) (by rfl) (ma_cons (me_v (pv 5)) (ma_cons me_str ma_nil))) (ma_cons me_int ma_nil))))) (mw_or (mt_not (mt_val (me_callH h__law_same (hr.mono (by decide)) (by rfl) (ma_cons (me_callH h_misread (hr.mono (by decide)) (by rfl) (ma_cons (me_tup (ma_cons me_int (ma_cons me_int ma_nil))) (ma_cons (me_v (pv 5)) ma_nil))) (ma_cons (me_tup (ma_cons me_str (ma_cons me_str ma_nil))) ma_nil))))) (mw_or1 (mt_not (mt_val (me_callH h__law_same (hr.mono (by decide)) (by rfl) (ma_cons (me_callH h_letters_alike_behind (hr.mono (by decide)) (by rfl) (ma_cons (me_v (pv 5)) ma_nil)) (ma_cons (me_tup (ma_cons (me_tup (ma_cons me_str (ma_cons me_str ma_nil))) ma_nil)) ma_nil)))))))))
    (mss_one (ms_ret me_bl))
    mss_nil)
    (mss_one (ms_ret (me_and (me_callH h__law_same (hr.mono (by decide)) (by rfl) (ma_cons (me_callH h_turned_sign (hr.mono (by decide)) (by rfl) (ma_cons (me_tup (ma_cons me_int (ma_cons me_int ma_nil))) (ma_cons me_int ma_nil))) (ma_cons (me_tup (ma_cons me_int (ma_cons me_int ma_nil))) ma_nil))) (me_and (me_callH h__law_same (hr.mono (by decide)) (by rfl) (ma_cons (me_callH h_seen_from_behind (hr.mono (by decide)) (by rfl) (ma_cons (me_tup (ma_cons me_int (ma_cons me_int ma_nil))) ma_nil)) (ma_cons (me_tup (ma_cons me_int (ma_cons me_int ma_nil))) ma_nil))) (me_and (me_callH h__law_same (hr.mono (by decide)) (by rfl) (ma_cons (me_callH h_moves_of_word (hr.mono (by decide)) (by rfl) (ma_cons (me_tup ma_nil) (ma_cons me_str ma_nil))) (ma_cons me_int ma_nil))) (me_one (me_callH h__law_same (hr.mono (by decide)) (by rfl) (ma_cons (me_callH h_moves_of_word (hr.mono (by decide)) (by rfl) (ma_cons (me_v (pv 5)) (ma_cons me_str ma_nil))) (ma_cons me_int ma_nil)))))))))))))))))
/-- the law -/
theorem ok_all (T : Tx K mg) : Has Pr w K mg base "law" s_law ["script"] 9 [false] f_law := by
  have h_all_signs := ok_all_signs (Pr := Pr) (w := w) (base := base) T 
  have h_eighths_between := ok_eighths_between (Pr := Pr) (w := w) (base := base) T 
  have h_moves_between := ok_moves_between (Pr := Pr) (w := w) (base := base) T h_eighths_between
  have h_signs_of := ok_signs_of (Pr := Pr) (w := w) (base := base) T 
  have h_moves_of_word := ok_moves_of_word (Pr := Pr) (w := w) (base := base) T h_moves_between h_signs_of
  have h_places_in_both := ok_places_in_both (Pr := Pr) (w := w) (base := base) T 
  have h_misread := ok_misread (Pr := Pr) (w := w) (base := base) T h_places_in_both
  have h_turned_sign := ok_turned_sign (Pr := Pr) (w := w) (base := base) T 
  have h_seen_from_behind := ok_seen_from_behind (Pr := Pr) (w := w) (base := base) T 
  have h_letters_alike_behind := ok_letters_alike_behind (Pr := Pr) (w := w) (base := base) T h_seen_from_behind
  have h__law_draws := ok__law_draws (Pr := Pr) (w := w) (base := base) T 
  have h__law_take := ok__law_take (Pr := Pr) (w := w) (base := base) T 
  have h__law_same := ok__law_same (Pr := Pr) (w := w) (base := base) T 
  have h__law_size := ok__law_size (Pr := Pr) (w := w) (base := base) T h__law_take
  have h__law_eighths := ok__law_eighths (Pr := Pr) (w := w) (base := base) T 
  have h__law_moves := ok__law_moves (Pr := Pr) (w := w) (base := base) T h__law_eighths
  have h__law_code := ok__law_code (Pr := Pr) (w := w) (base := base) T h__law_take
  have h__law_signs_right := ok__law_signs_right (Pr := Pr) (w := w) (base := base) T h__law_moves h__law_same h__law_size h__law_take h_moves_between h_seen_from_behind h_turned_sign
  have h__law_code_right := ok__law_code_right (Pr := Pr) (w := w) (base := base) T h__law_code h__law_moves h__law_same h__law_take h_letters_alike_behind h_misread h_moves_of_word
  have h_law := ok_law (Pr := Pr) (w := w) (base := base) T h__law_code_right h__law_draws h__law_same h__law_signs_right h_all_signs h_letters_alike_behind h_misread h_moves_between h_moves_of_word h_seen_from_behind h_turned_sign
  exact h_law
end
end P69

set_option Elab.async false
set_option linter.all false
set_option maxRecDepth 100000
set_option autoImplicit false
namespace P69
open PySem PySem.Spec L2 VL
theorem ms2 (x y : Int) : [D.int x, D.int y].mergeSort dLeD = if x ≤ y then [.int x, .int y] else [.int y, .int x] := by
  by_cases h : x ≤ y
  · rw [if_pos h]
    simp [List.mergeSort, List.merge, dLe_int, h]
  · rw [if_neg h]
    simp [List.mergeSort, List.merge, dLe_int, h]
theorem sort2 (x y : Int) : cSorted [.lst [.int x, .int y]] = some (.fresh (.lst (if x ≤ y then [.int x, .int y] else [.int y, .int x]))) := by
  have h1 : (likeD [D.int x, D.int y] && ([D.int x, D.int y].all tupD || [D.int x, D.int y].all notTupD)) = true := by rfl
  rw [sorted_run h1, ms2]
/-- the eighths between two places -/
def e8 (a c : Int) : Int := if (c - a) % 8 < (a - c) % 8 then (c - a) % 8 else (a - c) % 8
def mv (a b c d : Int) : Int := if e8 a d + e8 b c < e8 a c + e8 b d then e8 a d + e8 b c else e8 a c + e8 b d
abbrev sg (a b : Int) : D := .tup [.int a, .int b]
theorem eighths_ok (a c : Int) : f_eighths_between [.int a, .int c] = some (.val (.int (e8 a c)), []) := by rfl
theorem eighths_call {m : MS} {fs : AF} {m1 : MS} {a c : Int} (h : fs m = some ([.val (.int a), .val (.int c)], m1)) : mCall [false, false] f_eighths_between fs m = some (.val (.int (e8 a c)), m1) :=
  call_run h rfl (eighths_ok a c) rfl rfl rfl
theorem moves_ok (a b c d : Int) : f_moves_between [sg a b, sg c d] = some (.val (.int (mv a b c d)), []) := by rfl
/-- the less first -/
def srt (x y : Int) : D := if x ≤ y then sg x y else sg y x
theorem turned_ok (a b e : Int) : f_turned_sign [sg a b, .int e] = some (.val (srt ((a + e) % 8) ((b + e) % 8)), []) := by
  have lc : mLc [4] (iSeq (mV 0)) (gN 4) qYes (VL.m2 dMod (VL.m2 dAdd (mV 4) (mV 1)) (mC (.int 8))) (entry [false, false] [sg a b, .int e] 3) = some (.fresh (.lst [.int ((a + e) % 8), .int ((b + e) % 8)]), entry [false, false] [sg a b, .int e] 3) := by rfl
  generalize (a + e) % 8 = x at lc ⊢
  generalize (b + e) % 8 = y at lc ⊢
  have sr := sort2 x y
  unfold srt
  by_cases h : x ≤ y
  · rw [if_pos h] at sr ⊢
    exact def_rt rfl (seq_nx (asg_run (mn_run (aC_run lc rfl) rfl sr) rfl rfl) (ret_val rfl)) rfl
  · rw [if_neg h] at sr ⊢
    exact def_rt rfl (seq_nx (asg_run (mn_run (aC_run lc rfl) rfl sr) rfl rfl) (ret_val rfl)) rfl
theorem behind_ok (a b : Int) : f_seen_from_behind [sg a b] = some (.val (srt (-a % 8) (-b % 8)), []) := by
  have lc : mLc [3] (iSeq (mV 0)) (gN 3) qYes (VL.m2 dMod (VL.m1 dNeg (mV 3)) (mC (.int 8))) (entry [false] [sg a b] 3) = some (.fresh (.lst [.int (-a % 8), .int (-b % 8)]), entry [false] [sg a b] 3) := by rfl
  generalize -a % 8 = x at lc ⊢
  generalize -b % 8 = y at lc ⊢
  have sr := sort2 x y
  unfold srt
  by_cases h : x ≤ y
  · rw [if_pos h] at sr ⊢
    exact def_rt rfl (seq_nx (asg_run (mn_run (aC_run lc rfl) rfl sr) rfl rfl) (ret_val rfl)) rfl
  · rw [if_neg h] at sr ⊢
    exact def_rt rfl (seq_nx (asg_run (mn_run (aC_run lc rfl) rfl sr) rfl rfl) (ret_val rfl)) rfl
end P69

set_option Elab.async false
set_option linter.all false
set_option maxRecDepth 100000
set_option autoImplicit false
namespace P69
open PySem PySem.Spec L2 VL
theorem eight {a : Int} (h : 0 ≤ a ∧ a < 8) : a = 0 ∨ a = 1 ∨ a = 2 ∨ a = 3 ∨ a = 4 ∨ a = 5 ∨ a = 6 ∨ a = 7 := by omega
theorem law_eighths_ok {a c : Int} (ha : 0 ≤ a ∧ a < 8) (hc : 0 ≤ c ∧ c < 8) : f__law_eighths [.int a, .int c] = some (.val (.int (e8 a c)), []) := by
  rcases eight ha with rfl | rfl | rfl | rfl | rfl | rfl | rfl | rfl <;> rcases eight hc with rfl | rfl | rfl | rfl | rfl | rfl | rfl | rfl <;> rfl
/-! ### plain -/
def signsP : List (Int × Int) := (List.range 8).flatMap fun (i : Nat) => ((List.range 8).filter fun (j : Nat) => decide (i < j)).map fun (j : Nat) => (((i : Nat) : Int), ((j : Nat) : Int))
def encP (p : Int × Int) : D := sg p.1 p.2
def srtP (x y : Int) : Int × Int := if x ≤ y then (x, y) else (y, x)
theorem srt_enc (x y : Int) : srt x y = encP (srtP x y) := by
  unfold srt srtP
  split <;> rfl
def turnP (p : Int × Int) (e : Int) : Int × Int := srtP ((p.1 + e) % 8) ((p.2 + e) % 8)
def behP (p : Int × Int) : Int × Int := srtP (-p.1 % 8) (-p.2 % 8)
def mvP (p q : Int × Int) : Int := mv p.1 p.2 q.1 q.2
def rests : List Int := [0, 1, 2, 3, 4, 5, 6, 7]
theorem turn_mod (p : Int × Int) (e : Int) : turnP p e = turnP p (e % 8) := by
  unfold turnP
  rw [show (p.1 + e) % 8 = (p.1 + e % 8) % 8 by omega, show (p.2 + e) % 8 = (p.2 + e % 8) % 8 by omega]
theorem turn_neg (p : Int × Int) (e : Int) : turnP p (-e) = turnP p (-(e % 8)) := by
  unfold turnP
  rw [show (p.1 + -e) % 8 = (p.1 + -(e % 8)) % 8 by omega, show (p.2 + -e) % 8 = (p.2 + -(e % 8)) % 8 by omega]
theorem rest_mem (e : Int) : e % 8 ∈ rests := by
  have h : 0 ≤ e % 8 ∧ e % 8 < 8 := by omega
  rcases eight h with q | q | q | q | q | q | q | q <;> (rw [q]; decide)
theorem signs_in : ∀ p ∈ signsP, 0 ≤ p.1 ∧ p.1 < 8 ∧ 0 ≤ p.2 ∧ p.2 < 8 := by decide +kernel
theorem signs_len : signsP.length = 28 := by decide +kernel
theorem fact_two : ∀ p ∈ signsP, ∀ q ∈ signsP, mvP p q = mvP q p ∧ ((mvP p q == 0) = (p == q)) ∧ mvP p q ≤ 8 ∧ mvP (behP p) (behP q) = mvP p q := by decide +kernel
theorem fact_three : ∀ p ∈ signsP, ∀ q ∈ signsP, ∀ r ∈ signsP, mvP p q ≤ mvP p r + mvP r q := by decide +kernel
theorem fact_turn : ∀ p ∈ signsP, ∀ e ∈ rests, turnP p e ∈ signsP ∧ turnP (turnP p e) (-e) = p ∧ behP (turnP p e) = turnP (behP p) (-e) := by decide +kernel
theorem fact_turn2 : ∀ p ∈ signsP, ∀ q ∈ signsP, ∀ e ∈ rests, mvP (turnP p e) (turnP q e) = mvP p q := by decide +kernel
theorem fact_beh : ∀ p ∈ signsP, behP p ∈ signsP ∧ behP (behP p) = p ∧ turnP p 8 = p := by decide +kernel
end P69

set_option Elab.async false
set_option linter.all false
set_option maxRecDepth 100000
set_option autoImplicit false
namespace P69
open PySem PySem.Spec L2 VL
/-! ### calls -/
theorem sameN_eq : ∀ k, f__law_sameN k = c_sameN k
  | 0 => rfl
  | k + 1 => congrArg (fun F => defF [false, false] 1 (k_same F)) (sameN_eq k)
theorem take_eq : f__law_take = c_take := rfl
theorem size_eq : f__law_size = c_size := rfl
theorem draws_eq : f__law_draws = c_draws := rfl
section
variable {fs : AF} {m m1 : MS} {p q : Int × Int} {e : Int} {d : D}
theorem same_call (h : fs m = some ([.val d, .val d], m1)) (hf : flatB d 5 = true) (ho : dOk d far = true) (hz : sizeD d = true) : mCall [false, false] f__law_same fs m = some (.val (.bl true), m1) :=
  call_run h rfl (by show f__law_sameN 6 _ = _; rw [sameN_eq]; exact same_ok 5 d hf ho hz) rfl rfl rfl
theorem nsame (h : fs m = some ([.val d, .val d], m1)) (hf : flatB d 5 = true) (ho : dOk d far = true) (hz : sizeD d = true) : qNot (tOf (mCall [false, false] f__law_same fs)) m = some (false, m1) :=
  qNot_run (b := true) (tOf_run (same_call h hf ho hz))
theorem nsameI {x : Int} (h : fs m = some ([.val (.int x), .val (.int x)], m1)) : qNot (tOf (mCall [false, false] f__law_same fs)) m = some (false, m1) := nsame h rfl rfl rfl
theorem nsameP (h : fs m = some ([.val (encP p), .val (encP p)], m1)) : qNot (tOf (mCall [false, false] f__law_same fs)) m = some (false, m1) := nsame h rfl rfl rfl
theorem movesC (h : fs m = some ([.val (encP p), .val (encP q)], m1)) : mCall [false, false] f_moves_between fs m = some (.val (.int (mvP p q)), m1) := call_run h rfl (moves_ok _ _ _ _) rfl rfl rfl
theorem turnC (h : fs m = some ([.val (encP p), .val (.int e)], m1)) : mCall [false, false] f_turned_sign fs m = some (.val (encP (turnP p e)), m1) :=
  call_run h rfl (by rw [show encP p = sg p.1 p.2 from rfl, turned_ok, srt_enc]; rfl) rfl rfl rfl
theorem behC (h : fs m = some ([.val (encP p)], m1)) : mCall [false] f_seen_from_behind fs m = some (.val (encP (behP p)), m1) :=
  call_run h rfl (by rw [show encP p = sg p.1 p.2 from rfl, behind_ok, srt_enc]; rfl) rfl rfl rfl
theorem law_eighthsC {a c : Int} (h : fs m = some ([.val (.int a), .val (.int c)], m1)) (ha : 0 ≤ a ∧ a < 8) (hc : 0 ≤ c ∧ c < 8) : mCall [false, false] f__law_eighths fs m = some (.val (.int (e8 a c)), m1) := call_run h rfl (law_eighths_ok ha hc) rfl rfl rfl
theorem law_moves_ok (hp : p ∈ signsP) (hq : q ∈ signsP) : f__law_moves [encP p, encP q] = some (.val (.int (mvP p q)), []) := by
  obtain ⟨p1, p2, p3, p4⟩ := signs_in p hp
  obtain ⟨q1, q2, q3, q4⟩ := signs_in q hq
  exact def_rt (m1 := [some (.shr, encP p), some (.shr, encP q)]) rfl (ret_val (mn_run (aC_run (m2_run (p := .val (.int (e8 p.1 q.1))) (q := .val (.int (e8 p.2 q.2))) (law_eighthsC rfl ⟨p1, p2⟩ ⟨q1, q2⟩) (law_eighthsC rfl ⟨p3, p4⟩ ⟨q3, q4⟩) rfl rfl rfl) (aC_run (m2_run (p := .val (.int (e8 p.1 q.2))) (q := .val (.int (e8 p.2 q.1))) (law_eighthsC rfl ⟨p1, p2⟩ ⟨q3, q4⟩) (law_eighthsC rfl ⟨p3, p4⟩ ⟨q1, q2⟩) rfl rfl rfl) rfl)) rfl rfl)) rfl
theorem lawMovesC (hp : p ∈ signsP) (hq : q ∈ signsP) (h : fs m = some ([.val (encP p), .val (encP q)], m1)) : mCall [false, false] f__law_moves fs m = some (.val (.int (mvP p q)), m1) := call_run h rfl (law_moves_ok hp hq) rfl rfl rfl
theorem pick {j : Int} (h : 0 ≤ j ∧ j < 28) : ∃ p ∈ signsP, dIx (.lst (signsP.map encP)) (.int j) = some (.val (encP p)) := by
  obtain ⟨k, rfl⟩ := Int.eq_ofNat_of_zero_le h.1
  have hk : k < signsP.length := by rw [signs_len]; omega
  exact ⟨signsP[k], List.getElem_mem hk, ix_lst_run (by rw [List.getElem?_map, List.getElem?_eq_getElem hk]; rfl)⟩
end
theorem noLsts_ints : ∀ ns : List Int, noLsts (ns.map D.int) = true
  | [] => rfl
  | _ :: ns => noLsts_ints ns
theorem size_call (ns xs : List Int) (tl : MS) : ∃ (n : Int) (ns' : List Int), 0 ≤ n ∧ mCall [true, false] f__law_size (aC (mV 0) (aC (mV 1) aN)) (some (.byr, .lst (ns.map .int)) :: some (.shr, .frz (xs.map .int)) :: tl) = some (.val (.int n), some (.byr, .lst (ns'.map .int)) :: some (.shr, .frz (xs.map .int)) :: tl) := by
  obtain ⟨n, ns', h, h0⟩ := size_ok ns xs
  refine ⟨n, ns', h0, call_run (ps := [.bor 0, .val (.frz (xs.map .int))]) (ds := [.lst (ns.map .int), .frz (xs.map .int)]) (rs := [.lst (ns'.map .int)]) rfl rfl h rfl ?_ rfl⟩
  show ((true || _) && ((noLsts (ns'.map D.int) && true) || _)) = true
  rw [noLsts_ints]
  rfl
theorem tupsort {lc : EF} {m m1 : MS} {x y : Int} (h : lc m = some (.fresh (.lst [.int x, .int y]), m1)) : mn cTuple (aC (mn cSorted (aC lc aN)) aN) m = some (.val (encP (srtP x y)), m1) := by
  rw [← srt_enc]
  have sr := sort2 x y
  unfold srt
  by_cases q : x ≤ y
  · rw [if_pos q] at sr ⊢
    exact mn_run (aC_run (mn_run (aC_run h rfl) rfl sr) rfl) rfl rfl
  · rw [if_neg q] at sr ⊢
    exact mn_run (aC_run (mn_run (aC_run h rfl) rfl sr) rfl) rfl rfl
theorem table_ok {a : Int} (h : 0 ≤ a ∧ a < 8) : dIx (.lst [.int 0, .int 7, .int 6, .int 5, .int 4, .int 3, .int 2, .int 1]) (.int a) = some (.val (.int (-a % 8))) := by
  rcases eight h with rfl | rfl | rfl | rfl | rfl | rfl | rfl | rfl <;> rfl
/-! ### _law_signs_right -/
theorem signs_right_ok (ns xs : List Int) : ∃ ns' : List Int, f__law_signs_right [.lst (ns.map .int), .frz (xs.map .int), .lst (signsP.map encP)] = some (.val (.bl true), [.lst (ns'.map .int)]) := by
  obtain ⟨p, hp, ep⟩ := pick (takeI_range (ns := ns) (m := 28) (by decide))
  generalize hn1 : (takeI ns 28).2 = n1
  obtain ⟨q, hq, eq⟩ := pick (takeI_range (ns := n1) (m := 28) (by decide))
  generalize hn2 : (takeI n1 28).2 = n2
  obtain ⟨r, hr, er⟩ := pick (takeI_range (ns := n2) (m := 28) (by decide))
  generalize hn3 : (takeI n2 28).2 = n3
  let ST (ns : List Int) (tl : MS) : MS := some (.byr, .lst (ns.map .int)) :: some (.shr, .frz (xs.map .int)) :: some (.shr, .lst (signsP.map encP)) :: tl
  -- the choice of how far to turn
  obtain ⟨e, n7, he⟩ : ∃ (e : Int) (n7 : List Int), (VL.m2 dIx (mLst (aC (VL.m2 dSub (mCall [true, false] f__law_take (aC (mV 0) (aC (mC (.int 17)) aN))) (mC (.int 8))) (aC (VL.m2 dMul (VL.m2 dMod (mCall [true, false] f__law_size (aC (mV 0) (aC (mV 1) aN))) (VL.m2 dPow (mC (.int 10)) (mC (.int 29)))) (VL.m2 dSub (mC (.int 1)) (VL.m2 dMul (mC (.int 2)) (mCall [true, false] f__law_take (aC (mV 0) (aC (mC (.int 2)) aN)))))) aN))) (mCall [true, false] f__law_take (aC (mV 0) (aC (mC (.int 2)) aN))))
      (ST n3 [some (.shr, encP p), some (.shr, encP q), some (.shr, encP r), some (.shr, .int (mvP p q)), none, none, none, none]) = some (.val (.int e), ST n7 [some (.shr, encP p), some (.shr, encP q), some (.shr, encP r), some (.shr, .int (mvP p q)), none, none, none, none]) := by
    generalize hn4 : (takeI n3 17).2 = n4
    obtain ⟨sz, n5, hsz, hsc⟩ := size_call n4 xs (some (.shr, .lst (signsP.map encP)) :: [some (.shr, encP p), some (.shr, encP q), some (.shr, encP r), some (.shr, .int (mvP p q)), none, none, none, none])
    have r2 := takeI_range (ns := n5) (m := 2) (by decide)
    generalize hn6 : (takeI n5 2).2 = n6
    have r3 := takeI_range (ns := n6) (m := 2) (by decide)
    generalize hn7 : (takeI n6 2).2 = n7
    have k1 : mCall [true, false] f__law_take (aC (mV 0) (aC (mC (.int 17)) aN)) (ST n3 [some (.shr, encP p), some (.shr, encP q), some (.shr, encP r), some (.shr, .int (mvP p q)), none, none, none, none]) = some (.val (.int (takeI n3 17).1), ST n4 [some (.shr, encP p), some (.shr, encP q), some (.shr, encP r), some (.shr, .int (mvP p q)), none, none, none, none]) := by
      rw [← hn4]; exact take_call rfl (.inr rfl) rfl (by decide)
    have k2 : mCall [true, false] f__law_take (aC (mV 0) (aC (mC (.int 2)) aN)) (ST n5 [some (.shr, encP p), some (.shr, encP q), some (.shr, encP r), some (.shr, .int (mvP p q)), none, none, none, none]) = some (.val (.int (takeI n5 2).1), ST n6 [some (.shr, encP p), some (.shr, encP q), some (.shr, encP r), some (.shr, .int (mvP p q)), none, none, none, none]) := by
      rw [← hn6]; exact take_call rfl (.inr rfl) rfl (by decide)
    have k3 : mCall [true, false] f__law_take (aC (mV 0) (aC (mC (.int 2)) aN)) (ST n6 [some (.shr, encP p), some (.shr, encP q), some (.shr, encP r), some (.shr, .int (mvP p q)), none, none, none, none]) = some (.val (.int (takeI n6 2).1), ST n7 [some (.shr, encP p), some (.shr, encP q), some (.shr, encP r), some (.shr, .int (mvP p q)), none, none, none, none]) := by
      rw [← hn7]; exact take_call rfl (.inr rfl) rfl (by decide)
    generalize (takeI n3 17).1 = t1 at k1
    generalize (takeI n5 2).1 = t2 at k2 r2
    generalize (takeI n6 2).1 = t3 at k3 r3
    have f1 : mulFit 2 t2 = true := mulFit_l (by decide) (by decide)
    have f2 : mulFit (sz % 10 ^ 29) (1 - 2 * t2) = true := mulFit_r (by omega) (by omega)
    have g1 : dMul (.int 2) (.int t2) = some (.val (.int (2 * t2))) := mul_run f1
    have g2 : dMul (.int (sz % 10 ^ 29)) (.int (1 - 2 * t2)) = some (.val (.int (sz % 10 ^ 29 * (1 - 2 * t2)))) := mul_run f2
    have L : mLst (aC (VL.m2 dSub (mCall [true, false] f__law_take (aC (mV 0) (aC (mC (.int 17)) aN))) (mC (.int 8))) (aC (VL.m2 dMul (VL.m2 dMod (mCall [true, false] f__law_size (aC (mV 0) (aC (mV 1) aN))) (VL.m2 dPow (mC (.int 10)) (mC (.int 29)))) (VL.m2 dSub (mC (.int 1)) (VL.m2 dMul (mC (.int 2)) (mCall [true, false] f__law_take (aC (mV 0) (aC (mC (.int 2)) aN)))))) aN))
        (ST n3 [some (.shr, encP p), some (.shr, encP q), some (.shr, encP r), some (.shr, .int (mvP p q)), none, none, none, none]) = some (.fresh (.lst [.int (t1 - 8), .int (sz % 10 ^ 29 * (1 - 2 * t2))]), ST n6 [some (.shr, encP p), some (.shr, encP q), some (.shr, encP r), some (.shr, .int (mvP p q)), none, none, none, none]) :=
      lst_run (aC_run (m2_run k1 rfl rfl rfl rfl) (aC_run (m2_run (m2_run hsc rfl rfl rfl rfl) (m2_run rfl (m2_run rfl k2 rfl rfl g1) rfl rfl rfl) rfl rfl g2) rfl)) rfl (by show 2 ≤ sizeLine; decide)
    have h3 : t3 = 0 ∨ t3 = 1 := by omega
    rcases h3 with rfl | rfl
    · exact ⟨t1 - 8, n7, m2_run L k3 rfl rfl rfl⟩
    · exact ⟨sz % 10 ^ 29 * (1 - 2 * t2), n7, m2_run L k3 rfl rfl rfl⟩
  -- what is asked
  obtain ⟨c1, c2, c3, c4⟩ := fact_two p hp q hq
  have c5 := fact_three p hp q hq r hr
  obtain ⟨d1, d2, d3⟩ := fact_turn p hp (e % 8) (rest_mem e)
  obtain ⟨b1, b2, b3⟩ := fact_beh p hp
  have t1 : turnP (turnP p e) (-e) = p := by rw [turn_mod p e, turn_neg]; exact d2
  have t2 : mvP (turnP p e) (turnP q e) = mvP p q := by rw [turn_mod p e, turn_mod q e]; exact fact_turn2 p hp q hq (e % 8) (rest_mem e)
  have t3 : behP (turnP p e) = turnP (behP p) (-e) := by rw [turn_mod p e, turn_neg]; exact d3
  let T (x7 x8 x9 : Option (Tag × D)) : MS := [some (.shr, encP p), some (.shr, encP q), some (.shr, encP r), some (.shr, .int (mvP p q)), x7, x8, x9, none]
  have lcT : mLc [10] (iSeq (mV 3)) (gN 10) qYes (VL.m2 dMod (mn cInt (aC (VL.m2 dAdd (mV 10) (mV 7)) aN)) (mC (.int 8))) (ST n7 (T (some (.shr, .int e)) none none)) = some (.fresh (.lst [.int ((p.1 + e) % 8), .int ((p.2 + e) % 8)]), ST n7 (T (some (.shr, .int e)) none none)) := by rfl
  obtain ⟨s1, s2, s3, s4⟩ := signs_in p hp
  have lcB : mLc [10] (iSeq (mV 3)) (gN 10) qYes (VL.m2 dIx (mLst (aC (mC (.int 0)) (aC (mC (.int 7)) (aC (mC (.int 6)) (aC (mC (.int 5)) (aC (mC (.int 4)) (aC (mC (.int 3)) (aC (mC (.int 2)) (aC (mC (.int 1)) aN))))))))) (mV 10)) (ST n7 (T (some (.shr, .int e)) (some (.shr, encP (turnP p e))) none)) = some (.fresh (.lst [.int (-p.1 % 8), .int (-p.2 % 8)]), ST n7 (T (some (.shr, .int e)) (some (.shr, encP (turnP p e))) none)) := by
    refine lc_run (ds := [p.1, p.2].map .int) (m1 := ST n7 (T (some (.shr, .int e)) (some (.shr, encP (turnP p e))) none)) (m2 := ST n7 (T (some (.shr, .int e)) (some (.shr, encP (turnP p e))) none)) (bk := none) rfl rfl ?_ rfl
    refine lcL_all D.int (fun x => D.int (-x % 8)) (acc := []) (fun x hx => ⟨ST n7 [some (.shr, encP p), some (.shr, encP q), some (.shr, encP r), some (.shr, .int (mvP p q)), some (.shr, .int e), some (.shr, encP (turnP p e)), none, some (.shr, .int x)], ST n7 [some (.shr, encP p), some (.shr, encP q), some (.shr, encP r), some (.shr, .int (mvP p q)), some (.shr, .int e), some (.shr, encP (turnP p e)), none, some (.shr, .int x)], _, ST n7 [some (.shr, encP p), some (.shr, encP q), some (.shr, encP r), some (.shr, .int (mvP p q)), some (.shr, .int e), some (.shr, encP (turnP p e)), none, some (.shr, .int x)], .val (.int (-x % 8)), rfl, rfl, m2_run rfl rfl rfl rfl (table_ok ?_), rfl, rfl, rfl⟩) (by show 0 + 2 ≤ sizeLine; decide)
    simp only [List.mem_cons, List.not_mem_nil, or_false] at hx
    rcases hx with rfl | rfl
    · exact ⟨s1, s2⟩
    · exact ⟨s3, s4⟩
  have kk : ∀ {a b : List Int} (tl : MS), (takeI a 28).2 = b → mCall [true, false] f__law_take (aC (mV 0) (aC (mC (.int 28)) aN)) (ST a tl) = some (.val (.int (takeI a 28).1), ST b tl) := fun {a b} tl h => by
    subst h
    exact take_call rfl (.inr rfl) rfl (by decide)
  refine ⟨n7, def_rt (m1 := ST n7 (T (some (.shr, .int e)) (some (.shr, encP (turnP p e))) (some (.shr, encP (behP p))))) rfl ?_ rfl⟩
  unfold g__law_signs_right
  refine seq_nx (m1 := ST n1 [some (.shr, encP p), none, none, none, none, none, none, none]) (set_run (m2_run rfl (kk _ hn1) rfl rfl ep) rfl) ?_
  refine seq_nx (m1 := ST n2 [some (.shr, encP p), some (.shr, encP q), none, none, none, none, none, none]) (set_run (m2_run rfl (kk _ hn2) rfl rfl eq) rfl) ?_
  refine seq_nx (m1 := ST n3 [some (.shr, encP p), some (.shr, encP q), some (.shr, encP r), none, none, none, none, none]) (set_run (m2_run rfl (kk _ hn3) rfl rfl er) rfl) ?_
  refine seq_nx (m1 := ST n3 (T none none none)) (set_run (movesC (p := p) (q := q) rfl) rfl) ?_
  -- moves between
  have u1 : aC (mCall [false, false] f_moves_between (aC (mV 4) (aC (mV 3) aN))) (aC (mV 6) aN) (ST n3 (T none none none)) = some ([.val (.int (mvP p q)), .val (.int (mvP p q))], ST n3 (T none none none)) :=
    aC_run (by rw [c1]; exact movesC (p := q) (q := p) rfl) rfl
  have u2 : tOf (VL.m2 dNeO (VL.m2 dEqO (mV 6) (mC (.int 0))) (VL.m2 dEqO (mV 3) (mV 4))) (ST n3 (T none none none)) = some (false, ST n3 (T none none none)) := by
    have e1 : dEq (encP p) (encP q) = (p == q) := by
      show ((p.1 == q.1) && ((p.2 == q.2) && true)) = _
      rw [Bool.and_true]
      rfl
    show some (!((mvP p q == 0) == dEq (encP p) (encP q)), _) = _
    rw [e1, c2]
    simp
  refine skip_if (m1 := ST n3 (T none none none)) (qOr_f (nsameI (aC_run rfl (aC_run (lawMovesC hp hq rfl) rfl))) (qOr_f (nsameI u1) u2)) ?_
  have u3 : tOf (VL.m2 dGt (mV 6) (VL.m2 dAdd (mCall [false, false] f_moves_between (aC (mV 3) (aC (mV 5) aN))) (mCall [false, false] f_moves_between (aC (mV 5) (aC (mV 4) aN))))) (ST n3 (T none none none)) = some (false, ST n3 (T none none none)) := by
    refine tOf_run (m2_run (p := .val (.int (mvP p q))) (q := .val (.int (mvP p r + mvP r q))) rfl (m2_run (movesC (p := p) (q := r) rfl) (movesC (p := r) (q := q) rfl) rfl rfl rfl) rfl rfl ?_)
    show some (P.val (D.bl (decide (mvP p r + mvP r q < mvP p q)))) = _
    rw [decide_eq_false (by omega)]
  have u4 : tOf (VL.m2 dGt (mV 6) (mC (.int 8))) (ST n3 (T none none none)) = some (false, ST n3 (T none none none)) := by
    show some (decide (8 < mvP p q), _) = _
    rw [decide_eq_false (by omega)]
  refine skip_if (m1 := ST n3 (T none none none)) (qOr_f u3 u4) ?_
  refine seq_nx (m1 := ST n7 (T (some (.shr, .int e)) none none)) (set_run he rfl) ?_
  refine seq_nx (m1 := ST n7 (T (some (.shr, .int e)) (some (.shr, encP (turnP p e))) none)) (set_run (p := .val (encP (turnP p e))) (tupsort lcT) rfl) ?_
  refine seq_nx (m1 := ST n7 (T (some (.shr, .int e)) (some (.shr, encP (turnP p e))) (some (.shr, encP (behP p))))) (set_run (p := .val (encP (behP p))) (tupsort lcB) rfl) ?_
  generalize hF : ST n7 (T (some (.shr, .int e)) (some (.shr, encP (turnP p e))) (some (.shr, encP (behP p)))) = F
  have w3 : mV 3 F = some (.val (encP p), F) := by rw [← hF]; rfl
  have w4 : mV 4 F = some (.val (encP q), F) := by rw [← hF]; rfl
  have w6 : mV 6 F = some (.val (.int (mvP p q)), F) := by rw [← hF]; rfl
  have w7 : mV 7 F = some (.val (.int e), F) := by rw [← hF]; rfl
  have w8 : mV 8 F = some (.val (encP (turnP p e)), F) := by rw [← hF]; rfl
  have w9 : mV 9 F = some (.val (encP (behP p)), F) := by rw [← hF]; rfl
  have wn : VL.m1 dNeg (mV 7) F = some (.val (.int (-e)), F) := m1_run w7 rfl rfl
  have v1 : mCall [false, false] f_turned_sign (aC (mV 3) (aC (mV 7) aN)) F = some (.val (encP (turnP p e)), F) := turnC (aC_run w3 (aC_run w7 rfl))
  have v2 : mCall [false, false] f_turned_sign (aC (mV 4) (aC (mV 7) aN)) F = some (.val (encP (turnP q e)), F) := turnC (aC_run w4 (aC_run w7 rfl))
  have v3 : mCall [false] f_seen_from_behind (aC (mV 3) aN) F = some (.val (encP (behP p)), F) := behC (aC_run w3 rfl)
  have v4 : mCall [false] f_seen_from_behind (aC (mV 4) aN) F = some (.val (encP (behP q)), F) := behC (aC_run w4 rfl)
  have v5 : mCall [false] f_seen_from_behind (aC (mV 9) aN) F = some (.val (encP p), F) := by
    have := behC (p := behP p) (fs := aC (mV 9) aN) (m := F) (m1 := F) (aC_run w9 rfl)
    rw [b2] at this
    exact this
  have v6 : mCall [false, false] f_turned_sign (aC (mCall [false, false] f_turned_sign (aC (mV 3) (aC (mV 7) aN))) (aC (VL.m1 dNeg (mV 7)) aN)) F = some (.val (encP p), F) := by
    have := turnC (p := turnP p e) (e := -e) (aC_run v1 (aC_run wn (aN_run (m := F))))
    rw [t1] at this
    exact this
  have v7 : mCall [false, false] f_turned_sign (aC (mV 3) (aC (mC (.int 8)) aN)) F = some (.val (encP p), F) := by
    have := turnC (p := p) (e := 8) (fs := aC (mV 3) (aC (mC (.int 8)) aN)) (m := F) (m1 := F) (aC_run w3 rfl)
    rw [b3] at this
    exact this
  have v8 : mCall [false, false] f_moves_between (aC (mCall [false, false] f_turned_sign (aC (mV 3) (aC (mV 7) aN))) (aC (mCall [false, false] f_turned_sign (aC (mV 4) (aC (mV 7) aN))) aN)) F = some (.val (.int (mvP p q)), F) := by
    have := movesC (aC_run v1 (aC_run v2 (aN_run (m := F))))
    rw [t2] at this
    exact this
  have v9 : mCall [false, false] f_moves_between (aC (mCall [false] f_seen_from_behind (aC (mV 3) aN)) (aC (mCall [false] f_seen_from_behind (aC (mV 4) aN)) aN)) F = some (.val (.int (mvP p q)), F) := by
    have := movesC (aC_run v3 (aC_run v4 (aN_run (m := F))))
    rw [c4] at this
    exact this
  refine skip_if (qOr_f (nsameP (aC_run v1 (aC_run w8 rfl))) (qOr_f (nsameP (aC_run v3 (aC_run w9 rfl))) (nsameP (aC_run v5 (aC_run w3 rfl))))) ?_
  refine skip_if (qOr_f (nsameP (aC_run v6 (aC_run w3 rfl))) (nsameP (aC_run v7 (aC_run w3 rfl)))) ?_
  refine skip_if (nsameI (aC_run v8 (aC_run w6 rfl))) ?_
  refine skip_if (nsameI (aC_run v9 (aC_run w6 rfl))) ?_
  have v10 := behC (aC_run v1 (show aN F = some ([], F) from rfl))
  rw [t3] at v10
  have v11 := turnC (p := behP p) (e := -e) (aC_run v3 (aC_run wn (show aN F = some ([], F) from rfl)))
  exact ret_val (same_call (d := encP (turnP (behP p) (-e))) (aC_run v10 (aC_run v11 rfl)) rfl rfl rfl)
end P69

set_option Elab.async false
set_option linter.all false
set_option maxRecDepth 100000
set_option autoImplicit false
namespace P69
open PySem PySem.Spec L2 VL
/-- the n-th letter -/
def lt (n : Nat) : Str := ⟨#[97 + n]⟩
abbrev ltD (n : Nat) : D := .str (lt n)
abbrev Code := List (Nat × (Int × Int))
def encC (x : Nat × (Int × Int)) : D := .tup [ltD x.1, encP x.2]
/-- letters unlike one another, signs of two arms -/
structure Good (code : Code) : Prop where
  nd : (code.map (·.1)).Nodup
  lt12 : ∀ x ∈ code, x.1 < 12
  sg : ∀ x ∈ code, x.2 ∈ signsP
theorem letters_eq : strD "abcdefghijkl" = (List.range 12).map ltD := by rfl
theorem nodup_erase {l : List Nat} {i : Nat} {x : Nat} (n : l.Nodup) (h : l[i]? = some x) : (l.eraseIdx i).Nodup ∧ x ∉ l.eraseIdx i ∧ ∀ y, y ∈ l.eraseIdx i → y ∈ l := by
  refine ⟨n.sublist (List.eraseIdx_sublist l i), fun q => ?_, fun y q => (List.eraseIdx_sublist l i).subset q⟩
  have hi := lt_of_get h
  rw [List.mem_eraseIdx_iff_getElem?] at q
  obtain ⟨j, hj, e⟩ := q
  have hjl := lt_of_get e
  have := (List.getElem?_inj hi n).mp (h.trans e.symm)
  exact hj this.symm
theorem erase_map {α : Type} (f : α → D) : ∀ (l : List α) (i : Nat), (l.map f).eraseIdx i = (l.eraseIdx i).map f
  | [], _ => rfl
  | _ :: _, 0 => rfl
  | a :: l, i + 1 => congrArg (f a :: ·) (erase_map f l i)
theorem code_ok (ns : List Int) (many : Nat) (hm : many ≤ 12) : ∃ (code : Code) (ns' : List Int), f__law_code [.lst (ns.map .int), .lst (signsP.map encP), .int (many : Nat)] = some (.val (.tup (code.map encC)), [.lst (ns'.map .int)]) ∧ Good code ∧ code.length = many := by
  let ST (ns : List Int) (ls : List Nat) (ss : List (Int × Int)) (k : Option (Tag × D)) : MS := [some (.byr, .lst (ns.map .int)), some (.shr, .lst (signsP.map encP)), some (.shr, .int (many : Nat)), some (.own, .lst (ls.map ltD)), some (.own, .lst (ss.map encP)), none, k]
  have loop : ∃ acc' m', lcL [6] (gN 6) qYes (mTup (aC (mW "list" 3 wPopAt (aC (mCall [true, false] f__law_take (aC (mV 0) (aC (mn cLen (aC (mV 3) aN)) aN))) aN)) (aC (mW "list" 4 wPopAt (aC (mCall [true, false] f__law_take (aC (mV 0) (aC (mn cLen (aC (mV 4) aN)) aN))) aN)) aN)))
      ((List.range many).map fun (i : Nat) => D.int (i : Nat)) (ST ns (List.range 12) signsP none) [] = some (acc', m') ∧
      ∃ (code : Code) (ns' : List Int) (ls : List Nat) (ss : List (Int × Int)), acc' = code.map encC ∧ m' = ST ns' ls ss none ∧ code.length = many ∧ Good code ∧ ls.length + many = 12 ∧ ls.Nodup ∧ (∀ x ∈ ls, x < 12 ∧ x ∉ code.map (·.1)) ∧ ss.length + many = 28 ∧ ∀ s ∈ ss, s ∈ signsP := by
    refine lcL_range (vs := [6]) (tg := gN 6) (tt := qYes) (fun i acc m => ∃ (code : Code) (ns' : List Int) (ls : List Nat) (ss : List (Int × Int)), acc = code.map encC ∧ m = ST ns' ls ss none ∧ code.length = i ∧ Good code ∧ ls.length + i = 12 ∧ ls.Nodup ∧ (∀ x ∈ ls, x < 12 ∧ x ∉ code.map (·.1)) ∧ ss.length + i = 28 ∧ ∀ s ∈ ss, s ∈ signsP) ?_ ?_
    · rintro i m acc hi ⟨code, ns', ls, ss, rfl, rfl, hcl, hg, hl, hnd, hls, hs, hss⟩
      have r1 := takeI_range (ns := ns') (m := (ls.length : Int)) (by omega)
      obtain ⟨j, hj⟩ : ∃ j : Nat, (takeI ns' (ls.length : Int)).1 = (j : Int) := ⟨_, (Int.toNat_of_nonneg r1.1).symm⟩
      generalize hn1 : (takeI ns' (ls.length : Int)).2 = n1
      have r2 := takeI_range (ns := n1) (m := (ss.length : Int)) (by omega)
      obtain ⟨k, hk⟩ : ∃ k : Nat, (takeI n1 (ss.length : Int)).1 = (k : Int) := ⟨_, (Int.toNat_of_nonneg r2.1).symm⟩
      generalize hn2 : (takeI n1 (ss.length : Int)).2 = n2
      have hjl : j < ls.length := by omega
      have hkl : k < ss.length := by omega
      have e1 : ls[j]? = some ls[j] := List.getElem?_eq_getElem hjl
      have e2 : ss[k]? = some ss[k] := List.getElem?_eq_getElem hkl
      obtain ⟨x1, x2, x3⟩ := nodup_erase hnd e1
      have t1 : mCall [true, false] f__law_take (aC (mV 0) (aC (mn cLen (aC (mV 3) aN)) aN)) (ST ns' ls ss (some (.shr, .int (i : Nat)))) = some (.val (.int (j : Nat)), ST n1 ls ss (some (.shr, .int (i : Nat)))) := by
        have := take_call (i := 0) (m := ST ns' ls ss (some (.shr, .int (i : Nat)))) (tg := .byr) (ns := ns') (e := mn cLen (aC (mV 3) aN)) (k := (ls.length : Int)) rfl (.inr rfl) (by show some (P.val (D.int ((ls.map ltD).length : Int)), _) = _; rw [List.length_map]) (by omega)
        rw [hj, hn1] at this
        exact this
      have t2 : mCall [true, false] f__law_take (aC (mV 0) (aC (mn cLen (aC (mV 4) aN)) aN)) (ST n1 (ls.eraseIdx j) ss (some (.shr, .int (i : Nat)))) = some (.val (.int (k : Nat)), ST n2 (ls.eraseIdx j) ss (some (.shr, .int (i : Nat)))) := by
        have := take_call (i := 0) (m := ST n1 (ls.eraseIdx j) ss (some (.shr, .int (i : Nat)))) (tg := .byr) (ns := n1) (e := mn cLen (aC (mV 4) aN)) (k := (ss.length : Int)) rfl (.inr rfl) (by show some (P.val (D.int ((ss.map encP).length : Int)), _) = _; rw [List.length_map]) (by omega)
        rw [hk, hn2] at this
        exact this
      have p1 : mW "list" 3 wPopAt (aC (mCall [true, false] f__law_take (aC (mV 0) (aC (mn cLen (aC (mV 3) aN)) aN))) aN) (ST ns' ls ss (some (.shr, .int (i : Nat)))) = some (.val (ltD ls[j]), ST n1 (ls.eraseIdx j) ss (some (.shr, .int (i : Nat)))) := by
        refine w_run (tg := .own) (tg2 := .own) (d0 := .lst (ls.map ltD)) (d := .lst (ls.map ltD)) (d' := .lst ((ls.eraseIdx j).map ltD)) rfl rfl (aC_run t1 aN_run) rfl rfl ?_ rfl
        rw [← erase_map]
        exact wPopAt_run (by rw [List.getElem?_map, e1]; rfl) (by omega)
      have p2 : mW "list" 4 wPopAt (aC (mCall [true, false] f__law_take (aC (mV 0) (aC (mn cLen (aC (mV 4) aN)) aN))) aN) (ST n1 (ls.eraseIdx j) ss (some (.shr, .int (i : Nat)))) = some (.val (encP ss[k]), ST n2 (ls.eraseIdx j) (ss.eraseIdx k) (some (.shr, .int (i : Nat)))) := by
        refine w_run (tg := .own) (tg2 := .own) (d0 := .lst (ss.map encP)) (d := .lst (ss.map encP)) (d' := .lst ((ss.eraseIdx k).map encP)) rfl rfl (aC_run t2 aN_run) rfl rfl ?_ rfl
        rw [← erase_map]
        exact wPopAt_run (by rw [List.getElem?_map, e2]; rfl) (by omega)
      have hx := hls ls[j] (List.getElem_mem hjl)
      refine ⟨ST ns' ls ss (some (.shr, .int (i : Nat))), ST ns' ls ss (some (.shr, .int (i : Nat))), ST n2 (ls.eraseIdx j) (ss.eraseIdx k) (some (.shr, .int (i : Nat))), ST n2 (ls.eraseIdx j) (ss.eraseIdx k) (some (.shr, .int (i : Nat))), .val (encC (ls[j], ss[k])), encC (ls[j], ss[k]), rfl, rfl, tup_run (aC_run p1 (aC_run p2 aN_run)) rfl (by show 2 ≤ sizeLine; decide), rfl, rfl, by rw [List.length_map, hcl, sizeLine_eq]; omega, code ++ [(ls[j], ss[k])], n2, ls.eraseIdx j, ss.eraseIdx k, by simp, rfl, by simp [hcl], ⟨?_, ?_, ?_⟩, ?_, x1, ?_, ?_, ?_⟩
      · rw [List.map_append]
        refine List.nodup_append.mpr ⟨hg.nd, by simp, fun a ha b hb => ?_⟩
        simp at hb
        subst hb
        intro q
        subst q
        exact hx.2 ha
      · intro x h
        rcases List.mem_append.mp h with h | h
        · exact hg.lt12 x h
        · simp at h; subst h; exact hx.1
      · intro x h
        rcases List.mem_append.mp h with h | h
        · exact hg.sg x h
        · simp at h; subst h; exact hss _ (List.getElem_mem hkl)
      · rw [List.length_eraseIdx, if_pos hjl]; omega
      · intro x h
        refine ⟨(hls x (x3 x h)).1, fun q => ?_⟩
        rw [List.map_append] at q
        rcases List.mem_append.mp q with q | q
        · exact (hls x (x3 x h)).2 q
        · simp at q; subst q; exact x2 h
      · rw [List.length_eraseIdx, if_pos hkl]; omega
      · exact fun s h => hss s ((List.eraseIdx_sublist ss k).subset h)
    · exact ⟨[], ns, List.range 12, signsP, rfl, rfl, rfl, ⟨List.nodup_nil, (fun _ h => by cases h), (fun _ h => by cases h)⟩, by simp, List.nodup_range, fun x h => ⟨List.mem_range.mp h, by simp⟩, by rw [signs_len], fun _ h => h⟩
  obtain ⟨acc', m', h1, code, ns', ls, ss, rfl, rfl, h2, h3, _⟩ := loop
  refine ⟨code, ns', def_rt (m1 := ST ns' ls ss none) rfl ?_ rfl, h3, h2⟩
  unfold g__law_code
  refine seq_nx (m1 := [some (.byr, .lst (ns.map .int)), some (.shr, .lst (signsP.map encP)), some (.shr, .int (many : Nat)), some (.own, .lst ((List.range 12).map ltD)), none, none, none]) ?_ (seq_nx (m1 := ST ns (List.range 12) signsP none) rfl (ret_val (mn_run (aC_run (lc_run (iR1_run (n := many) (m1 := ST ns (List.range 12) signsP none) rfl (by omega)) rfl h1 rfl) aN_run) rfl rfl)))
  refine set_run (p := .fresh (.lst ((List.range 12).map ltD))) (m1 := [some (.byr, .lst (ns.map .int)), some (.shr, .lst (signsP.map encP)), some (.shr, .int (many : Nat)), none, none, none, none]) ?_ rfl
  refine lc_run (ds := (List.range 12).map ltD) (m1 := [some (.byr, .lst (ns.map .int)), some (.shr, .lst (signsP.map encP)), some (.shr, .int (many : Nat)), none, none, none, none]) (m2 := [some (.byr, .lst (ns.map .int)), some (.shr, .lst (signsP.map encP)), some (.shr, .int (many : Nat)), none, none, none, none]) (bk := none) rfl rfl ?_ rfl
  exact lcL_all ltD ltD (acc := []) (fun x hx => ⟨_, _, _, _, _, rfl, rfl, rfl, rfl, rfl, rfl⟩) (by rw [List.length_range, sizeLine_eq]; decide)
end P69

set_option Elab.async false
set_option linter.all false
set_option maxRecDepth 100000
set_option autoImplicit false
namespace P69
open PySem PySem.Spec L2 VL
/-! ### dicts of a code -/
abbrev ltK (n : Nat) : Key := .inr (lt n)
theorem lt_inj {a b : Nat} (h : lt a = lt b) : a = b := by
  unfold lt at h
  injection h with h
  have : (97 + a) = (97 + b) := by simpa using h
  omega
theorem ltK_inj {a b : Nat} (h : ltK a = ltK b) : a = b := lt_inj (Sum.inr.inj h)
def kys (c : Code) : List Key := c.map fun x => ltK x.1
def vls (c : Code) : List D := c.map fun x => encP x.2
theorem put_new {ks : List Key} {ds : List D} {k : Key} {d : D} (h : k ∉ ks) : putD ks ds k d = (ks ++ [k], ds ++ [d]) := by
  unfold putD
  rw [if_neg]
  intro q
  obtain ⟨x, hx, e⟩ := List.any_eq_true.mp q
  exact h (by rw [← of_decide_eq_true e]; exact hx)
theorem kys_snoc (c : Code) (x : Nat × (Int × Int)) : kys (c ++ [x]) = kys c ++ [ltK x.1] := by simp [kys]
theorem vls_snoc (c : Code) (x : Nat × (Int × Int)) : vls (c ++ [x]) = vls c ++ [encP x.2] := by simp [vls]
theorem not_kys {c : Code} {n : Nat} (h : n ∉ c.map (·.1)) : ltK n ∉ kys c := fun q => by
  obtain ⟨x, hx, e⟩ := List.mem_map.mp q
  exact h (List.mem_map.mpr ⟨x, hx, ltK_inj e⟩)
theorem dct_mem : ∀ {c : Code} {x : Nat × (Int × Int)}, (c.map (·.1)).Nodup → x ∈ c → dctAt (kys c) (vls c) (ltK x.1) = some (encP x.2)
  | y :: c, x, n, h => by
    show (if ltK y.1 = ltK x.1 then some (encP y.2) else dctAt (kys c) (vls c) (ltK x.1)) = _
    rw [List.map_cons, List.nodup_cons] at n
    rcases List.mem_cons.mp h with rfl | h
    · rw [if_pos rfl]
    · rw [if_neg fun e => n.1 (by rw [ltK_inj e]; exact List.mem_map.mpr ⟨x, h, rfl⟩)]
      exact dct_mem n.2 h
theorem dct_none : ∀ {c : Code} {k : Key}, k ∉ kys c → dctAt (kys c) (vls c) k = none
  | [], _, _ => rfl
  | y :: c, k, h => by
    show (if ltK y.1 = k then some (encP y.2) else dctAt (kys c) (vls c) k) = _
    rw [if_neg fun e => h (by rw [← e]; exact List.mem_cons_self), dct_none fun q => h (List.mem_cons_of_mem _ q)]
theorem pairs_code : ∀ c : Code, pairsOf (c.map encC) = some (c.map fun x => (ltK x.1, encP x.2))
  | [] => rfl
  | x :: c => by
    show (match keyD (ltD x.1), pairsOf (c.map encC) with
      | some j, some ps => some ((j, encP x.2) :: ps)
      | _, _ => none) = _
    rw [pairs_code c]
    rfl
theorem merge_code : ∀ {c d : Code}, ((d ++ c).map (·.1)).Nodup → mergeD (kys d) (vls d) (c.map fun x => (ltK x.1, encP x.2)) = (kys (d ++ c), vls (d ++ c))
  | [], d, _ => by rw [List.append_nil]; rfl
  | x :: c, d, n => by
    have hx : x.1 ∉ d.map (·.1) := by
      rw [List.map_append, List.map_cons, List.nodup_append] at n
      exact fun q => n.2.2 _ q _ List.mem_cons_self rfl
    show mergeD (putD (kys d) (vls d) (ltK x.1) (encP x.2)).1 (putD (kys d) (vls d) (ltK x.1) (encP x.2)).2 _ = _
    rw [put_new (not_kys hx), ← kys_snoc, ← vls_snoc, merge_code (by rw [List.append_assoc]; exact n), List.append_assoc]
    rfl
theorem dict_code {c : Code} (n : (c.map (·.1)).Nodup) : cDict [.tup (c.map encC)] = some (.fresh (.dct (kys c) (vls c))) := by
  show (match pairsOf (c.map encC) with
    | some ps => some (P.fresh (.dct (mergeD [] [] ps).1 (mergeD [] [] ps).2))
    | none => none) = _
  rw [pairs_code]
  have := merge_code (c := c) (d := []) (by simpa using n)
  rw [show kys [] = [] from rfl, show vls [] = [] from rfl] at this
  dsimp only
  rw [this]
  rfl
theorem signs_of_ok {c : Code} (g : Good c) (hz : c.length ≤ 100) : f_signs_of [.tup (c.map encC)] = some (.fresh (.dct (kys c) (vls c)), []) := by
  have go : ∀ {c2 d : Code}, ((d ++ c2).map (·.1)).Nodup → (d ++ c2).length ≤ 100 → dcL [1, 2] (gT 2 (gsC (gN 1) (gsC (gN 2) gsN))) qYes (mV 1) (mV 2) (c2.map encC) [some (.shr, .tup (c.map encC)), none, none] (kys d) (vls d) = some (kys (d ++ c2), vls (d ++ c2), [some (.shr, .tup (c.map encC)), none, none]) := by
    intro c2
    induction c2 with
    | nil => intro d _ _; rw [List.append_nil]; rfl
    | cons x c2 ih =>
      intro d n hl
      have hx : x.1 ∉ d.map (·.1) := by
        rw [List.map_append, List.map_cons, List.nodup_append] at n
        exact fun q => n.2.2 _ q _ List.mem_cons_self rfl
      have hk : (kys d).length < sizeLine := by
        rw [List.length_append] at hl
        unfold kys
        rw [List.length_map, sizeLine_eq]; omega
      have hc : (okWipe [some (Tag.shr, D.tup (c.map encC)), some (.shr, ltD x.1), some (.shr, encP x.2)] [1, 2] && decide ((kys d).length < sizeLine)) = true := by rw [decide_eq_true hk]; rfl
      show (if (okWipe [some (Tag.shr, D.tup (c.map encC)), some (.shr, ltD x.1), some (.shr, encP x.2)] [1, 2] && decide ((kys d).length < sizeLine)) = true then dcL [1, 2] (gT 2 (gsC (gN 1) (gsC (gN 2) gsN))) qYes (mV 1) (mV 2) (c2.map encC) [some (.shr, .tup (c.map encC)), none, none] (putD (kys d) (vls d) (ltK x.1) (encP x.2)).1 (putD (kys d) (vls d) (ltK x.1) (encP x.2)).2 else none) = _
      rw [if_pos hc, put_new (not_kys hx), ← kys_snoc, ← vls_snoc, ih (by rw [List.append_assoc]; exact n) (by rw [List.append_assoc]; exact hl), List.append_assoc]
      rfl
  refine def_rt (m1 := [some (.shr, .tup (c.map encC)), none, none]) rfl (ret_fresh ?_) rfl
  have := go (c2 := c) (d := []) (by simpa using g.nd) (by simpa using hz)
  show (match dcL [1, 2] (gT 2 (gsC (gN 1) (gsC (gN 2) gsN))) qYes (mV 1) (mV 2) (c.map encC) [some (.shr, .tup (c.map encC)), none, none] [] [] with
    | some (ks, acc, m2) => match unlockM (restM [some (.shr, .tup (c.map encC)), none, none] m2 [1, 2]) none with
      | some m3 => some (P.fresh (.dct ks acc), m3)
      | none => none
    | none => none) = _
  rw [show kys [] = [] from rfl, show vls [] = [] from rfl] at this
  rw [this]
  rfl
/-! ### words -/
def wd (ws : Code) : Str := ⟨(ws.map fun x => 97 + x.1).toArray⟩
theorem wd_list (ws : Code) : (wd ws).cps.toList = ws.map fun x => 97 + x.1 := by simp [wd]
theorem wd_str (ws : Code) : strD (wd ws) = ws.map fun x => ltD x.1 := by
  unfold strD
  rw [wd_list, List.map_map]
  rfl
theorem wd_len (ws : Code) : (wd ws).length = ws.length := by
  show (wd ws).cps.size = _
  simp [wd]
theorem wd_rev (ws : Code) : revS (wd ws) = wd ws.reverse := by
  unfold revS
  rw [wd_list, ← List.map_reverse]
  rfl
theorem wd_at {ws : Code} {i : Nat} {x : Nat × (Int × Int)} (h : ws[i]? = some x) (hz : ws.length ≤ sizeLine) : dIx (.str (wd ws)) (.int (i : Nat)) = some (.val (ltD x.1)) := by
  show (if (wd ws).length ≤ sizeLine then (match atI (wd ws).cps.toList (i : Nat) with
    | some c => some (P.val (.str ⟨#[c]⟩))
    | none => none) else none) = _
  rw [if_pos (by rw [wd_len]; exact hz), atI_nat (v := 97 + x.1) (by rw [wd_list, List.getElem?_map, h]; rfl)]
  rfl
/-- the moves from sign to sign -/
def pathP : List (Int × Int) → Int
  | a :: b :: r => mvP a b + pathP (b :: r)
  | _ => 0
theorem path_snoc : ∀ (l : List (Int × Int)) (a b : Int × Int), pathP (l ++ [a, b]) = pathP (l ++ [a]) + mvP a b
  | [], a, b => by show mvP a b + 0 = 0 + mvP a b; omega
  | [x], a, b => by show mvP x a + (mvP a b + 0) = mvP x a + 0 + mvP a b; omega
  | x :: y :: l, a, b => by
    have := path_snoc (y :: l) a b
    show mvP x y + pathP (y :: l ++ [a, b]) = mvP x y + pathP (y :: l ++ [a]) + mvP a b
    rw [this]; omega
theorem path_rev : ∀ (l : List (Int × Int)), (∀ p ∈ l, p ∈ signsP) → pathP l.reverse = pathP l
  | [], _ => rfl
  | [_], _ => rfl
  | a :: b :: r, h => by
    have ih := path_rev (b :: r) fun p hp => h p (List.mem_cons_of_mem _ hp)
    have e : (a :: b :: r).reverse = r.reverse ++ [b, a] := by simp
    have e2 : (b :: r).reverse = r.reverse ++ [b] := by simp
    rw [e, path_snoc, ← e2, ih, (fact_two b (h b (by simp)) a (h a (by simp))).1]
    show pathP (b :: r) + mvP a b = mvP a b + pathP (b :: r)
    omega
end P69

set_option Elab.async false
set_option linter.all false
set_option maxRecDepth 100000
set_option autoImplicit false
namespace P69
open PySem PySem.Spec L2 VL
theorem bools_map : ∀ l : List Bool, boolsOf (l.map D.bl) = some l
  | [] => rfl
  | b :: l => by
    show (match boolsOf (l.map D.bl) with | some ns => some (b :: ns) | none => none) = _
    rw [bools_map l]
theorem ints_map : ∀ l : List Int, intsOf (l.map D.int) = some l
  | [] => rfl
  | b :: l => by
    show (match intsOf (l.map D.int) with | some ns => some (b :: ns) | none => none) = _
    rw [ints_map l]
def adj (s : List (Int × Int)) (i : Nat) : Int := match s[i]?, s[i + 1]? with
  | some a, some b => mvP a b
  | _, _ => 0
theorem path_sum : ∀ s : List (Int × Int), pathP s = ((List.range (s.length - 1)).map (adj s)).sum
  | [] => rfl
  | [_] => rfl
  | a :: b :: r => by
    have ih := path_sum (b :: r)
    show mvP a b + pathP (b :: r) = _
    rw [ih, show (a :: b :: r).length - 1 = (b :: r).length - 1 + 1 by simp, List.range_succ_eq_map, List.map_cons, List.map_map, List.sum_cons]
    rfl
theorem iR1_int {fs : AF} {m m1 : MS} {j : Int} (h : fs m = some ([.val (.int j)], m1)) (h1 : -100 ≤ j) (h2 : j < 2 ^ 40) : iR1 fs m = some ((List.range j.toNat).map fun (i : Nat) => D.int (i : Nat), m1, none) := by
  unfold iR1
  rw [h]
  show (if -(2 ^ 62) ≤ j ∧ j < 2 ^ 62 then some (rangeD 0 1 j.toNat, m1, none) else none) = _
  rw [if_pos (by omega), VL.range_map]
/-- the first look: is a letter unknown? -/
theorem unknown_run {c : Code} {z : Str} {m : List (Option (Tag × D))} (hz : z.cps.toList.length ≤ 1000) :
    tOf (mn cAny (aC (mLc [4] (iSeq (mV 1)) (gN 4) qYes (VL.m2 dNotIn (mV 4) (mV 2))) aN)) [some (.shr, .tup (c.map encC)), some (.shr, .str z), some (.shr, .dct (kys c) (vls c)), none, none, none] =
      some ((z.cps.toList.map fun k => !(dctAt (kys c) (vls c) (.inr (⟨#[k]⟩ : Str))).isSome).any id, [some (.shr, .tup (c.map encC)), some (.shr, .str z), some (.shr, .dct (kys c) (vls c)), none, none, none]) := by
  have lc : mLc [4] (iSeq (mV 1)) (gN 4) qYes (VL.m2 dNotIn (mV 4) (mV 2)) [some (.shr, .tup (c.map encC)), some (.shr, .str z), some (.shr, .dct (kys c) (vls c)), none, none, none] =
      some (.fresh (.lst (z.cps.toList.map fun k => D.bl (!(dctAt (kys c) (vls c) (.inr (⟨#[k]⟩ : Str))).isSome))), [some (.shr, .tup (c.map encC)), some (.shr, .str z), some (.shr, .dct (kys c) (vls c)), none, none, none]) := by
    refine lc_run (ds := strD z) (m1 := [some (.shr, .tup (c.map encC)), some (.shr, .str z), some (.shr, .dct (kys c) (vls c)), none, none, none]) (m2 := [some (.shr, .tup (c.map encC)), some (.shr, .str z), some (.shr, .dct (kys c) (vls c)), none, none, none]) (bk := none) rfl rfl ?_ rfl
    exact lcL_all (fun k => D.str ⟨#[k]⟩) (fun k => D.bl (!(dctAt (kys c) (vls c) (.inr (⟨#[k]⟩ : Str))).isSome)) (acc := []) (fun x hx => ⟨_, _, _, _, _, rfl, rfl, rfl, rfl, rfl, rfl⟩) (by rw [sizeLine_eq, List.length_nil]; omega)
  refine tOf_run (mn_run (aC_run lc aN_run) rfl ?_)
  show (match boolsOf (z.cps.toList.map fun k => D.bl (!(dctAt (kys c) (vls c) (.inr (⟨#[k]⟩ : Str))).isSome)) with | some ns => some (bl (ns.any id)) | none => none) = _
  have := bools_map (z.cps.toList.map fun k => !(dctAt (kys c) (vls c) (.inr (⟨#[k]⟩ : Str))).isSome)
  rw [List.map_map] at this
  rw [show (fun k => D.bl (!(dctAt (kys c) (vls c) (.inr (⟨#[k]⟩ : Str))).isSome)) = D.bl ∘ fun k => !(dctAt (kys c) (vls c) (.inr (⟨#[k]⟩ : Str))).isSome from rfl, this]
theorem signs_ofC {c : Code} {fs : AF} {m m1 : MS} (g : Good c) (hz : c.length ≤ 100) (h : fs m = some ([.val (.tup (c.map encC))], m1)) : mCall [false] f_signs_of fs m = some (.fresh (.dct (kys c) (vls c)), m1) := by
  refine call_run h rfl (signs_of_ok g hz) rfl ?_ rfl
  show ((true || _) && ([].all leafD || _)) = true
  rfl
theorem moves_of_word_ok {c ws : Code} (g : Good c) (hc : c.length ≤ 100) (hw : ∀ x ∈ ws, x ∈ c) (hl : ws.length ≤ 1000) : f_moves_of_word [.tup (c.map encC), .str (wd ws)] = some (.val (.int (pathP (ws.map (·.2)))), []) := by
  have hn : ((wd ws).cps.toList.map fun k => !(dctAt (kys c) (vls c) (.inr (⟨#[k]⟩ : Str))).isSome).any id = false := by
    rw [wd_list, List.map_map, List.any_map, List.any_eq_false]
    intro x hx
    have := dct_mem g.nd (hw x hx)
    show ¬ (!(dctAt (kys c) (vls c) (ltK x.1)).isSome) = true
    rw [this]
    simp
  have un := unknown_run (c := c) (z := wd ws) (m := []) (by rw [wd_list, List.length_map]; exact hl)
  rw [hn] at un
  have l1 : mLc [4] (iSeq (mV 1)) (gN 4) qYes (VL.m2 dIx (mV 2) (mV 4)) [some (.shr, .tup (c.map encC)), some (.shr, .str (wd ws)), some (.shr, .dct (kys c) (vls c)), none, none, none] =
      some (.fresh (.lst (ws.map fun x => encP x.2)), [some (.shr, .tup (c.map encC)), some (.shr, .str (wd ws)), some (.shr, .dct (kys c) (vls c)), none, none, none]) := by
    refine lc_run (ds := ws.map fun x => ltD x.1) (m1 := [some (.shr, .tup (c.map encC)), some (.shr, .str (wd ws)), some (.shr, .dct (kys c) (vls c)), none, none, none]) (m2 := [some (.shr, .tup (c.map encC)), some (.shr, .str (wd ws)), some (.shr, .dct (kys c) (vls c)), none, none, none]) (bk := none) ?_ rfl ?_ rfl
    · show some (strD (wd ws), _, _) = _
      rw [wd_str]
    · refine lcL_all (α := Nat × (Int × Int)) (fun x => ltD x.1) (fun x => encP x.2) (acc := []) (fun x hx => ?_) (by rw [sizeLine_eq, List.length_nil]; omega)
      have e : dIx (.dct (kys c) (vls c)) (ltD x.1) = some (.val (encP x.2)) := by
        show (match dctAt (kys c) (vls c) (ltK x.1) with | some d => some (P.val d) | none => none) = _
        rw [dct_mem g.nd (hw x hx)]
      exact ⟨[some (.shr, .tup (c.map encC)), some (.shr, .str (wd ws)), some (.shr, .dct (kys c) (vls c)), none, some (.shr, ltD x.1), none], _, [some (.shr, .tup (c.map encC)), some (.shr, .str (wd ws)), some (.shr, .dct (kys c) (vls c)), none, some (.shr, ltD x.1), none], _, .val (encP x.2), rfl, rfl, m2_run rfl rfl rfl rfl e, rfl, rfl, rfl⟩
  have l2 : mLc [5] (iR1 (aC (VL.m2 dSub (mn cLen (aC (mV 3) aN)) (mC (.int 1))) aN)) (gN 5) qYes (mCall [false, false] f_moves_between (aC (VL.m2 dIx (mV 3) (mV 5)) (aC (VL.m2 dIx (mV 3) (VL.m2 dAdd (mV 5) (mC (.int 1)))) aN)))
      [some (.shr, .tup (c.map encC)), some (.shr, .str (wd ws)), some (.shr, .dct (kys c) (vls c)), some (.shr, .lst (ws.map fun x => encP x.2)), none, none] =
      some (.fresh (.lst (((List.range (ws.length - 1)).map (adj (ws.map (·.2)))).map D.int)), [some (.shr, .tup (c.map encC)), some (.shr, .str (wd ws)), some (.shr, .dct (kys c) (vls c)), some (.shr, .lst (ws.map fun x => encP x.2)), none, none]) := by
    have hi : iR1 (aC (VL.m2 dSub (mn cLen (aC (mV 3) aN)) (mC (.int 1))) aN) [some (.shr, .tup (c.map encC)), some (.shr, .str (wd ws)), some (.shr, .dct (kys c) (vls c)), some (.shr, .lst (ws.map fun x => encP x.2)), none, none] =
        some ((List.range (ws.length - 1)).map fun (i : Nat) => D.int (i : Nat), [some (.shr, .tup (c.map encC)), some (.shr, .str (wd ws)), some (.shr, .dct (kys c) (vls c)), some (.shr, .lst (ws.map fun x => encP x.2)), none, none], none) := by
      have := iR1_int (fs := aC (VL.m2 dSub (mn cLen (aC (mV 3) aN)) (mC (.int 1))) aN) (m := [some (.shr, .tup (c.map encC)), some (.shr, .str (wd ws)), some (.shr, .dct (kys c) (vls c)), some (.shr, .lst (ws.map fun x => encP x.2)), none, none]) (j := ((ws.map fun x => encP x.2).length : Int) - 1) rfl (by omega) (by rw [List.length_map]; omega)
      rw [this, List.length_map, show ((ws.length : Int) - 1).toNat = ws.length - 1 by omega]
    refine lc_run (m2 := [some (.shr, .tup (c.map encC)), some (.shr, .str (wd ws)), some (.shr, .dct (kys c) (vls c)), some (.shr, .lst (ws.map fun x => encP x.2)), none, none]) hi rfl ?_ rfl
    rw [List.map_map]
    refine lcL_all (xs := List.range (ws.length - 1)) (fun (i : Nat) => D.int (i : Nat)) (D.int ∘ adj (ws.map (·.2))) (acc := []) (fun i hx => ?_) (by rw [sizeLine_eq, List.length_range, List.length_nil]; omega)
    have hi1 := List.mem_range.mp hx
    have e1 : ws[i]? = some ws[i] := List.getElem?_eq_getElem (by omega)
    have e2 : ws[i + 1]? = some (ws[i + 1]'(by omega)) := List.getElem?_eq_getElem (by omega)
    have ea : adj (ws.map (·.2)) i = mvP ws[i].2 (ws[i + 1]'(by omega)).2 := by
      unfold adj
      rw [List.getElem?_map, List.getElem?_map, e1, e2]
      rfl
    have q1 : dIx (.lst (ws.map fun x => encP x.2)) (.int (i : Nat)) = some (.val (encP ws[i].2)) := ix_lst_run (by rw [List.getElem?_map, e1]; rfl)
    have q2 : dIx (.lst (ws.map fun x => encP x.2)) (.int ((i : Int) + 1)) = some (.val (encP (ws[i + 1]'(by omega)).2)) := by
      have := ix_lst_run (ds := ws.map fun x => encP x.2) (i := i + 1) (d := encP (ws[i + 1]'(by omega)).2) (by rw [List.getElem?_map, e2]; rfl)
      rw [show ((i + 1 : Nat) : Int) = (i : Int) + 1 by omega] at this
      exact this
    refine ⟨[some (.shr, .tup (c.map encC)), some (.shr, .str (wd ws)), some (.shr, .dct (kys c) (vls c)), some (.shr, .lst (ws.map fun x => encP x.2)), none, some (.shr, .int (i : Nat))], _, [some (.shr, .tup (c.map encC)), some (.shr, .str (wd ws)), some (.shr, .dct (kys c) (vls c)), some (.shr, .lst (ws.map fun x => encP x.2)), none, some (.shr, .int (i : Nat))], [some (.shr, .tup (c.map encC)), some (.shr, .str (wd ws)), some (.shr, .dct (kys c) (vls c)), some (.shr, .lst (ws.map fun x => encP x.2)), none, some (.shr, .int (i : Nat))], .val (.int (mvP ws[i].2 (ws[i + 1]'(by omega)).2)), rfl, rfl, movesC (aC_run (m2_run rfl rfl rfl rfl q1) (aC_run (m2_run rfl rfl rfl rfl q2) aN_run)), ?_, rfl, rfl⟩
    show some (D.int _, _) = some (D.int _, _)
    rw [ea]
  refine def_rt (m1 := [some (.shr, .tup (c.map encC)), some (.shr, .str (wd ws)), some (.shr, .dct (kys c) (vls c)), some (.shr, .lst (ws.map fun x => encP x.2)), none, none]) rfl ?_ rfl
  unfold g_moves_of_word
  refine seq_nx (m1 := [some (.shr, .tup (c.map encC)), some (.shr, .str (wd ws)), some (.shr, .dct (kys c) (vls c)), none, none, none]) (set_run (signs_ofC g hc rfl) rfl) (skip_if un (seq_nx (m1 := [some (.shr, .tup (c.map encC)), some (.shr, .str (wd ws)), some (.shr, .dct (kys c) (vls c)), some (.shr, .lst (ws.map fun x => encP x.2)), none, none]) (set_run l1 rfl) (ret_val (mn_run (aC_run l2 aN_run) rfl ?_))))
  show (match intsOf (((List.range (ws.length - 1)).map (adj (ws.map (·.2)))).map D.int) with | some ns => some (il ns.sum) | none => none) = _
  rw [ints_map, path_sum, List.length_map]
theorem moves_of_word_z {c ws : Code} (g : Good c) (hc : c.length ≤ 100) (hl : ws.length ≤ 900) : f_moves_of_word [.tup (c.map encC), .str (wd ws ++ "z")] = some (.val .non, []) := by
  have hs : (wd ws ++ ("z" : Str)).cps.toList = ws.map (fun x => 97 + x.1) ++ [122] := by
    show ((wd ws).cps ++ _).toList = _
    rw [Array.toList_append, wd_list]
    rfl
  have hn : ((wd ws ++ ("z" : Str)).cps.toList.map fun k => !(dctAt (kys c) (vls c) (.inr (⟨#[k]⟩ : Str))).isSome).any id = true := by
    rw [hs, List.map_append, List.any_append]
    have : dctAt (kys c) (vls c) (.inr (⟨#[122]⟩ : Str)) = none := dct_none fun q => by
      obtain ⟨x, hx, e⟩ := List.mem_map.mp q
      have h1 : lt x.1 = lt 25 := Sum.inr.inj e
      have h2 := lt_inj h1
      have h3 := g.lt12 x hx
      omega
    simp [this]
  have un := unknown_run (c := c) (z := wd ws ++ "z") (m := []) (by rw [hs]; simp; omega)
  rw [hn] at un
  refine def_rt (m1 := [some (.shr, .tup (c.map encC)), some (.shr, .str (wd ws ++ "z")), some (.shr, .dct (kys c) (vls c)), none, none, none]) rfl ?_ rfl
  unfold g_moves_of_word
  exact seq_nx (m1 := [some (.shr, .tup (c.map encC)), some (.shr, .str (wd ws ++ "z")), some (.shr, .dct (kys c) (vls c)), none, none, none]) (set_run (signs_ofC g hc rfl) rfl) (seq_rt (if_t un (ret_val rfl)))
end P69

set_option Elab.async false
set_option linter.all false
set_option maxRecDepth 100000
set_option autoImplicit false
namespace P69
open PySem PySem.Spec L2 VL
/-! ### lists alike -/
theorem flatBs_all {n : Nat} : ∀ {ds : List D}, (∀ d ∈ ds, flatB d n = true) → flatBs ds n = true
  | [], _ => rfl
  | d :: ds, h => by rw [flatBs, h d List.mem_cons_self, flatBs_all fun x hx => h x (List.mem_cons_of_mem _ hx)]; rfl
theorem sizeDs_all : ∀ {ds : List D}, (∀ d ∈ ds, sizeD d = true) → sizeDs ds = true
  | [], _ => rfl
  | d :: ds, h => by rw [sizeDs, h d List.mem_cons_self, sizeDs_all fun x hx => h x (List.mem_cons_of_mem _ hx)]; rfl
theorem dOks_all {n : Nat} : ∀ {ds : List D}, (∀ d ∈ ds, dOk d n = true) → dOks ds n = true
  | [], _ => rfl
  | d :: ds, h => by rw [dOks, h d List.mem_cons_self, dOks_all fun x hx => h x (List.mem_cons_of_mem _ hx)]; rfl
theorem like_map {α : Type} (f : α → D) (h1 : ∀ x y, PySem.W.alike (toPy (f x)) (toPy (f y)) = true) (h2 : ∀ x, dOk (f x) far = true) (l : List α) : likeD (l.map f) = true := by
  unfold likeD
  rw [Bool.and_eq_true]
  refine ⟨List.all_eq_true.mpr fun x hx => List.all_eq_true.mpr fun y hy => ?_, List.all_eq_true.mpr fun x hx => ?_⟩
  · obtain ⟨a, _, rfl⟩ := List.mem_map.mp hx
    obtain ⟨b, _, rfl⟩ := List.mem_map.mp hy
    exact h1 a b
  · obtain ⟨a, _, rfl⟩ := List.mem_map.mp hx
    exact h2 a
theorem sort_map {α : Type} (f : α → D) (h1 : ∀ x y, PySem.W.alike (toPy (f x)) (toPy (f y)) = true) (h2 : ∀ x, dOk (f x) far = true) (h3 : (∀ x, tupD (f x) = true) ∨ ∀ x, notTupD (f x) = true) (l : List α) : cSorted [.lst (l.map f)] = some (.fresh (.lst ((l.map f).mergeSort dLeD))) := by
  refine sorted_run ?_
  rw [like_map f h1 h2 l, Bool.true_and, Bool.or_eq_true]
  rcases h3 with h3 | h3
  · exact .inl (List.all_eq_true.mpr fun x hx => by obtain ⟨a, _, rfl⟩ := List.mem_map.mp hx; exact h3 a)
  · exact .inr (List.all_eq_true.mpr fun x hx => by obtain ⟨a, _, rfl⟩ := List.mem_map.mp hx; exact h3 a)
theorem sort_mem {α : Type} {f : α → D} {l : List α} {d : D} (h : d ∈ (l.map f).mergeSort dLeD) : ∃ x, d = f x := by
  obtain ⟨a, _, rfl⟩ := List.mem_map.mp (List.mem_mergeSort.mp h)
  exact ⟨a, rfl⟩
/-- a sorted tuple is as the law's own -/
theorem same_sorted {α : Type} {f : α → D} {l : List α} {fs : AF} {m m1 : MS} (h : fs m = some ([.val (.tup ((l.map f).mergeSort dLeD)), .val (.tup ((l.map f).mergeSort dLeD))], m1)) (h1 : ∀ x, flatB (f x) 4 = true) (h2 : ∀ x, dOk (f x) 39 = true) (h3 : ∀ x, sizeD (f x) = true) (hl : l.length ≤ 2 ^ 40) :
    mCall [false, false] f__law_same fs m = some (.val (.bl true), m1) := by
  refine same_call h ?_ ?_ ?_
  · exact flatBs_all fun d hd => by obtain ⟨x, rfl⟩ := sort_mem hd; exact h1 x
  · exact dOks_all fun d hd => by obtain ⟨x, rfl⟩ := sort_mem hd; exact h2 x
  · show (decide (_ ≤ 2 ^ 40) && _) = true
    rw [Bool.and_eq_true]
    exact ⟨decide_eq_true (by rw [List.length_mergeSort, List.length_map]; exact hl), sizeDs_all fun d hd => by obtain ⟨x, rfl⟩ := sort_mem hd; exact h3 x⟩
/-! ### places in both, misread -/
def inP (q : Int × Int) (a : Int) : Bool := q.1 == a || q.2 == a
def bothP (p q : Int × Int) : List Int := [p.1, p.2].filter (inP q)
theorem places_ok (p q : Int × Int) : f_places_in_both [encP p, encP q] = some (.val (.int ((bothP p q).length : Nat)), []) := by
  have lc : mLc [2] (iSeq (mV 0)) (gN 2) (tOf (VL.m2 dIn (mV 2) (mV 1))) (mV 2) [some (.shr, encP p), some (.shr, encP q), none] = some (.fresh (.lst ((bothP p q).map D.int)), [some (.shr, encP p), some (.shr, encP q), none]) := by
    refine lc_run (ds := [p.1, p.2].map D.int) (m1 := [some (.shr, encP p), some (.shr, encP q), none]) (m2 := [some (.shr, encP p), some (.shr, encP q), none]) (bk := none) rfl rfl ?_ rfl
    refine lcL_map D.int (inP q) D.int (acc := []) (fun x _ => ?_) (by show 0 + 2 ≤ sizeLine; decide)
    have e : dIn (.int x) (encP q) = some (.val (.bl (inP q x))) := by
      show some (bl (q.1 == x || (q.2 == x || false))) = _
      rw [Bool.or_false]; rfl
    refine ⟨fun k => ⟨[some (.shr, encP p), some (.shr, encP q), some (.shr, .int x)], [some (.shr, encP p), some (.shr, encP q), some (.shr, .int x)], [some (.shr, encP p), some (.shr, encP q), some (.shr, .int x)], [some (.shr, encP p), some (.shr, encP q), some (.shr, .int x)], .val (.int x), rfl, ?_, rfl, rfl, rfl, rfl⟩, fun k => ⟨[some (.shr, encP p), some (.shr, encP q), some (.shr, .int x)], [some (.shr, encP p), some (.shr, encP q), some (.shr, .int x)], rfl, ?_, rfl, rfl⟩⟩
    · rw [k] at e; exact tOf_run (m2_run rfl rfl rfl rfl e)
    · rw [k] at e; exact tOf_run (m2_run rfl rfl rfl rfl e)
  refine def_rt (m1 := [some (.shr, encP p), some (.shr, encP q), none]) rfl (ret_val (mn_run (aC_run lc aN_run) rfl ?_)) rfl
  show some (P.val (D.int (((bothP p q).map D.int).length : Int))) = _
  rw [List.length_map]
def oneP (p q : Int × Int) : Bool := (bothP p q).length == 1
theorem fact_one : ∀ p ∈ signsP, ∀ q ∈ signsP, (((nubI [q.1, q.2, p.1, p.2]).length : Int) == 3) = oneP p q := by decide +kernel
def misP (p : Int × Int) (c : Code) : List D := ((c.filter fun x => oneP p x.2).map fun x => ltD x.1).mergeSort dLeD
theorem sort_lts (c : Code) : cSorted [.lst (c.map fun x => ltD x.1)] = some (.fresh (.lst ((c.map fun x => ltD x.1).mergeSort dLeD))) := sort_map (fun x => ltD x.1) (fun _ _ => rfl) (fun _ => rfl) (.inr fun _ => rfl) c
theorem misread_ok {c : Code} {p : Int × Int} (hc : c.length ≤ 100) : f_misread [encP p, .tup (c.map encC)] = some (.val (.tup (misP p c)), []) := by
  let ST (a b : Option (Tag × D)) : MS := [some (.shr, encP p), some (.shr, .tup (c.map encC)), a, b]
  have lc : mLc [2, 3] (iSeq (mV 1)) (gT 2 (gsC (gN 2) (gsC (gN 3) gsN))) (tOf (VL.m2 dEqO (mCall [false, false] f_places_in_both (aC (mV 0) (aC (mV 3) aN))) (mC (.int 1)))) (mV 2) (ST none none) = some (.fresh (.lst ((c.filter fun x => oneP p x.2).map fun x => ltD x.1)), ST none none) := by
    refine lc_run (ds := c.map encC) (m1 := ST none none) (m2 := ST none none) (bk := none) rfl rfl ?_ rfl
    refine lcL_map encC (fun x => oneP p x.2) (fun x => ltD x.1) (acc := []) (fun x _ => ?_) (by rw [sizeLine_eq, List.length_nil]; omega)
    have e : tOf (VL.m2 dEqO (mCall [false, false] f_places_in_both (aC (mV 0) (aC (mV 3) aN))) (mC (.int 1))) (ST (some (.shr, ltD x.1)) (some (.shr, encP x.2))) = some (oneP p x.2, ST (some (.shr, ltD x.1)) (some (.shr, encP x.2))) := by
      refine tOf_run (m2_run (p := .val (.int ((bothP p x.2).length : Nat))) (q := .val (.int 1)) (call_run (ps := [.val (encP p), .val (encP x.2)]) rfl rfl (places_ok p x.2) rfl rfl rfl) rfl rfl rfl ?_)
      show some (bl (((bothP p x.2).length : Int) == 1)) = some (bl (oneP p x.2))
      unfold oneP
      generalize (bothP p x.2).length = n
      congr 2
      rw [Bool.eq_iff_iff]; simp; omega
    exact ⟨fun k => ⟨ST (some (.shr, ltD x.1)) (some (.shr, encP x.2)), ST (some (.shr, ltD x.1)) (some (.shr, encP x.2)), ST (some (.shr, ltD x.1)) (some (.shr, encP x.2)), ST (some (.shr, ltD x.1)) (some (.shr, encP x.2)), .val (ltD x.1), rfl, e.trans (by rw [k]), rfl, rfl, rfl, rfl⟩, fun k => ⟨ST (some (.shr, ltD x.1)) (some (.shr, encP x.2)), ST (some (.shr, ltD x.1)) (some (.shr, encP x.2)), rfl, e.trans (by rw [k]), rfl, rfl⟩⟩
  exact def_rt (m1 := ST none none) rfl (ret_val (mn_run (aC_run (mn_run (aC_run lc aN_run) rfl (sort_lts _)) aN_run) rfl rfl)) rfl
/-! ### pairs -/
def sh (o : Option D) : Option (Tag × D) := o.map fun d => (.shr, d)
def encL (x : Nat × Nat) : D := .tup [ltD x.1, ltD x.2]
def pin (T : Nat × (Int × Int) → Nat × (Int × Int) → Bool) (x : Nat × (Int × Int)) (l : Code) (s : List (Nat × Nat)) : List (Nat × Nat) := l.foldl (fun s y => if T x y then s ++ [(x.1, y.1)] else s) s
def pout (T : Nat × (Int × Int) → Nat × (Int × Int) → Bool) (c l : Code) (s : List (Nat × Nat)) : List (Nat × Nat) := l.foldl (fun s x => pin T x c s) s
theorem pin_len {T : Nat × (Int × Int) → Nat × (Int × Int) → Bool} {x : Nat × (Int × Int)} : ∀ {l : Code} {s : List (Nat × Nat)}, (pin T x l s).length ≤ s.length + l.length
  | [], s => Nat.le_refl _
  | y :: l, s => by
    have := pin_len (T := T) (x := x) (l := l) (s := if T x y then s ++ [(x.1, y.1)] else s)
    show (pin T x l (if T x y then s ++ [(x.1, y.1)] else s)).length ≤ _
    rw [List.length_cons]
    split at this <;> simp_all <;> omega
theorem pout_len {T : Nat × (Int × Int) → Nat × (Int × Int) → Bool} {c : Code} : ∀ {l : Code} {s : List (Nat × Nat)}, (pout T c l s).length ≤ s.length + l.length * c.length
  | [], s => by show s.length ≤ _; simp
  | x :: l, s => by
    have h1 := pout_len (T := T) (c := c) (l := l) (s := pin T x c s)
    have h2 := pin_len (T := T) (x := x) (l := c) (s := s)
    show (pout T c l (pin T x c s)).length ≤ _
    rw [List.length_cons, Nat.add_mul]
    omega
theorem pin_step {T : Nat × (Int × Int) → Nat × (Int × Int) → Bool} {x y : Nat × (Int × Int)} {c : Code} {i : Nat} {s : List (Nat × Nat)} (h : c[i]? = some y) : pin T x (c.take (i + 1)) s = if T x y then pin T x (c.take i) s ++ [(x.1, y.1)] else pin T x (c.take i) s := by
  unfold pin
  rw [List.take_add_one, h, List.foldl_append]
  rfl
theorem pout_step {T : Nat × (Int × Int) → Nat × (Int × Int) → Bool} {x : Nat × (Int × Int)} {c : Code} {i : Nat} {s : List (Nat × Nat)} (h : c[i]? = some x) : pout T c (c.take (i + 1)) s = pin T x c (pout T c (c.take i) s) := by
  unfold pout
  rw [List.take_add_one, h, List.foldl_append]
  rfl
theorem nested {St : List D → Option D → Option D → Option D → Option D → MS} {tg1 tg2 : GF} {it : IF} {tt : TF} {app : SF} {T : Nat × (Int × Int) → Nat × (Int × Int) → Bool} {c : Code} (hc : c.length ≤ 100)
    (h1 : ∀ (f : List D) (a b e g : Option D) (x : Nat × (Int × Int)), x ∈ c → tg1 (encC x) (St f a b e g) = some (St f (some (ltD x.1)) (some (encP x.2)) e g))
    (h2 : ∀ (f : List D) (a b e g : Option D) (x : Nat × (Int × Int)), x ∈ c → tg2 (encC x) (St f a b e g) = some (St f a b (some (ltD x.1)) (some (encP x.2))))
    (hi : ∀ f a b e g, it (St f a b e g) = some (c.map encC, St f a b e g, none))
    (ht : ∀ (f : List D) (x y : Nat × (Int × Int)), x ∈ c → y ∈ c → tt (St f (some (ltD x.1)) (some (encP x.2)) (some (ltD y.1)) (some (encP y.2))) = some (T x y, St f (some (ltD x.1)) (some (encP x.2)) (some (ltD y.1)) (some (encP y.2))))
    (ha : ∀ (f : List D) (x y : Nat × (Int × Int)), f.length < sizeLine → app (St f (some (ltD x.1)) (some (encP x.2)) (some (ltD y.1)) (some (encP y.2))) = some (.nx, St (f ++ [encL (x.1, y.1)]) (some (ltD x.1)) (some (encP x.2)) (some (ltD y.1)) (some (encP y.2))))
    (a b e g : Option D) : ∃ a' b' e' g', forL tg1 (sFor it tg2 (sIf tt app sNil)) (c.map encC) (St [] a b e g) = some (.nx, St ((pout T c c []).map encL) a' b' e' g') := by
  obtain ⟨m', q1, a', b', e', g', q2⟩ := forL_at (tg := tg1) (body := sFor it tg2 (sIf tt app sNil)) encC (fun k m => ∃ a b e g, m = St ((pout T c (c.take k) []).map encL) a b e g) (xs := c) (k := 0) (m := St [] a b e g) (by
    rintro i x m hx ⟨a, b, e, g, rfl⟩
    rw [Nat.zero_add]
    have hx2 := List.mem_of_getElem? hx
    have hil := lt_of_get hx
    generalize hs : pout T c (c.take i) [] = s
    have hsl : s.length ≤ 10000 := by
      rw [← hs]
      refine Nat.le_trans pout_len ?_
      have e1 : (c.take i).length ≤ 100 := by rw [List.length_take]; omega
      have := Nat.mul_le_mul e1 hc
      rw [List.length_nil]; omega
    obtain ⟨m2, r1, e2, g2, r2⟩ := forL_at (tg := tg2) (body := sIf tt app sNil) encC (fun k m => ∃ e g, m = St ((pin T x (c.take k) s).map encL) (some (ltD x.1)) (some (encP x.2)) e g) (xs := c) (k := 0) (m := St (s.map encL) (some (ltD x.1)) (some (encP x.2)) e g) (by
      rintro j y m hy ⟨e, g, rfl⟩
      rw [Nat.zero_add]
      have hy2 := List.mem_of_getElem? hy
      have hjl := lt_of_get hy
      have hz : ((pin T x (c.take j) s).map encL).length < sizeLine := by
        rw [List.length_map, sizeLine_eq]
        have := pin_len (T := T) (x := x) (l := c.take j) (s := s)
        rw [List.length_take] at this
        omega
      have hT := ht ((pin T x (c.take j) s).map encL) x y hx2 hy2
      refine ⟨_, St ((pin T x (c.take (j + 1)) s).map encL) (some (ltD x.1)) (some (encP x.2)) (some (ltD y.1)) (some (encP y.2)), .nx, h2 _ _ _ _ _ y hy2, ?_, .inl rfl, _, _, rfl⟩
      rw [pin_step hy]
      refine if_b hT (fun k => ?_) (fun k => ?_)
      · rw [if_pos k, ha _ _ _ hz, List.map_append]; rfl
      · rw [if_neg (by rw [k]; exact Bool.false_ne_true)]; rfl) ⟨e, g, rfl⟩
    rw [Nat.zero_add, List.take_length] at r2
    refine ⟨_, m2, .nx, h1 _ _ _ _ _ x hx2, for_run (hi _ _ _ _ _) r1 rfl, .inl rfl, some (ltD x.1), some (encP x.2), e2, g2, ?_⟩
    rw [pout_step hx, hs]
    exact r2) ⟨a, b, e, g, rfl⟩
  rw [Nat.zero_add, List.take_length] at q2
  exact ⟨a', b', e', g', by rw [q1, q2]⟩
def alike2 (x y : Nat × (Int × Int)) : Bool := decide ((lt x.1).cps.toList < (lt y.1).cps.toList) && dEq (encP (behP x.2)) (encP y.2)
def lettersP (c : Code) : List D := ((pout alike2 c c []).map encL).mergeSort dLeD
theorem sort_prs (l : List (Nat × Nat)) : cSorted [.lst (l.map encL)] = some (.fresh (.lst ((l.map encL).mergeSort dLeD))) := sort_map encL (fun _ _ => rfl) (fun _ => rfl) (.inl fun _ => rfl) l
theorem letters_ok {c : Code} (hc : c.length ≤ 100) : f_letters_alike_behind [.tup (c.map encC)] = some (.val (.tup (lettersP c)), []) := by
  let St (f : List D) (a b e g : Option D) : MS := [some (.shr, .tup (c.map encC)), some (.own, .lst f), sh a, sh b, sh e, sh g]
  obtain ⟨a, b, e, g, h⟩ := nested (St := St) (tg1 := gT 2 (gsC (gN 2) (gsC (gN 3) gsN))) (tg2 := gT 2 (gsC (gN 4) (gsC (gN 5) gsN))) (it := iSeq (mV 0)) (tt := qAnd (tOf (VL.m2 dLt (mV 2) (mV 4))) (tOf (VL.m2 dEqO (mCall [false] f_seen_from_behind (aC (mV 3) aN)) (mV 5)))) (app := sExpr (mW "list" 1 wAppend (aC (mTup (aC (mV 2) (aC (mV 4) aN))) aN))) (T := alike2) (c := c) hc
    (fun f a b e g x _ => by cases a <;> cases b <;> rfl) (fun f a b e g x _ => by cases e <;> cases g <;> rfl) (fun f a b e g => rfl)
    (fun f x y _ _ => by
      have q1 : tOf (VL.m2 dLt (mV 2) (mV 4)) (St f (some (ltD x.1)) (some (encP x.2)) (some (ltD y.1)) (some (encP y.2))) = some (decide ((lt x.1).cps.toList < (lt y.1).cps.toList), St f (some (ltD x.1)) (some (encP x.2)) (some (ltD y.1)) (some (encP y.2))) := rfl
      have q2 : tOf (VL.m2 dEqO (mCall [false] f_seen_from_behind (aC (mV 3) aN)) (mV 5)) (St f (some (ltD x.1)) (some (encP x.2)) (some (ltD y.1)) (some (encP y.2))) = some (dEq (encP (behP x.2)) (encP y.2), St f (some (ltD x.1)) (some (encP x.2)) (some (ltD y.1)) (some (encP y.2))) := tOf_run (m2_run (behC (p := x.2) rfl) rfl rfl rfl rfl)
      unfold alike2
      cases hb : decide ((lt x.1).cps.toList < (lt y.1).cps.toList) with
      | true => rw [hb] at q1; rw [Bool.true_and]; exact qAnd_t q1 q2
      | false => rw [hb] at q1; rw [Bool.false_and]; exact qAnd_f q1)
    (fun f x y hz => expr_run (w_run (tg := .own) (tg2 := .own) (d0 := .lst f) (d := .lst f) (d' := .lst (f ++ [encL (x.1, y.1)])) rfl rfl (aC_run (tup_run (ds := [ltD x.1, ltD y.1]) rfl rfl (by show 2 ≤ sizeLine; decide)) aN_run) rfl rfl (wAppend_run hz) rfl))
    none none none none
  refine def_rt (m1 := St ((pout alike2 c c []).map encL) a b e g) rfl ?_ rfl
  unfold g_letters_alike_behind
  refine seq_nx (m1 := St [] none none none none) rfl (seq_nx (m1 := St ((pout alike2 c c []).map encL) a b e g) (for_run (ds := c.map encC) (m1 := St [] none none none none) (bk := none) rfl h rfl) ?_)
  exact ret_val (mn_run (aC_run (mn_run (aC_run (p := .bor 1) rfl aN_run) rfl (sort_prs _)) aN_run) rfl rfl)
end P69

set_option Elab.async false
set_option linter.all false
set_option maxRecDepth 100000
set_option autoImplicit false
namespace P69
open PySem PySem.Spec L2 VL
theorem join_nil : ∀ l : List Str, (Txt.join "" l).cps.toList = l.flatMap fun a => a.cps.toList := by
  intro l
  show (Builtin.Str.glued "" l).cps.toList = _
  rw [PySem.StrLaws.glued_eq_join]
  induction l with
  | nil => rfl
  | cons a r ih =>
    cases r with
    | nil => show a.cps.toList = _; simp
    | cons b r =>
      show ((a.cps ++ #[]) ++ (Str.join "" (b :: r)).cps).toList = _
      rw [Array.toList_append, ih]
      simp
theorem join_wd (ws : Code) : Txt.join "" (ws.map fun x => lt x.1) = wd ws := by
  have h : (Txt.join "" (ws.map fun x => lt x.1)).cps.toList = ws.map fun x => 97 + x.1 := by
    rw [join_nil, List.flatMap_map]
    induction ws with
    | nil => rfl
    | cons x ws ih => rw [List.flatMap_cons, ih]; rfl
  generalize Txt.join "" (ws.map fun x => lt x.1) = z at h
  obtain ⟨z⟩ := z
  unfold wd
  congr 1
  rw [← h]
theorem strs_map {α : Type} (f : α → Str) : ∀ l : List α, strsOf (l.map fun x => D.str (f x)) = some (l.map f)
  | [] => rfl
  | x :: l => by
    show (match strsOf (l.map fun x => D.str (f x)) with | some xs => some (f x :: xs) | none => none) = _
    rw [strs_map f l]; rfl
theorem join_run {ws : Code} (hl : ws.length ≤ 1000) : mJoin (.str "") [.lst (ws.map fun x => ltD x.1)] = some (.val (.str (wd ws))) := by
  show (match strsOf (ws.map fun x => D.str (lt x.1)) with
    | some ys => if (ys.map (fun (a : Str) => a.length)).sum + ys.length * ("" : Str).length ≤ 16777216 then some (P.val (.str (Txt.join "" ys))) else none
    | none => none) = _
  rw [strs_map]
  have hs : ((ws.map fun x => lt x.1).map (fun (a : Str) => a.length)).sum = ws.length := by
    clear hl
    induction ws with
    | nil => rfl
    | cons x ws ih => rw [List.map_cons, List.map_cons, List.sum_cons, ih, List.length_cons]; show 1 + _ = _; omega
  dsimp only
  rw [hs, if_pos (by show _ + _ * 0 ≤ _; omega), join_wd]
noncomputable abbrev MK : EF := mLc [6] (iR1 (aC (VL.m2 dMul (mCall [true, false] f__law_take (aC (mV 0) (aC (mC (.int 9)) aN))) (mn cInt (aC (VL.m2 dGt (mn cLen (aC (mV 2) aN)) (mC (.int 0))) aN))) aN)) (gN 6) qYes (VL.m2 dIx (VL.m2 dIx (mV 2) (mCall [true, false] f__law_take (aC (mV 0) (aC (mn cLen (aC (mV 2) aN)) aN)))) (mC (.int 0)))
def W14 (ns : List Int) (c : Code) (x6 : Option (Tag × D)) : MS := [some (.byr, .lst (ns.map .int)), some (.shr, .lst (signsP.map encP)), some (.shr, .tup (c.map encC)), some (.shr, .dct (kys c) (vls c)), none, none, x6, none, none, none, none, none, none, none]
theorem word_lc {c : Code} (hc : c.length ≤ 100) (ns : List Int) : ∃ (ws : Code) (ns' : List Int), MK (W14 ns c none) = some (.fresh (.lst (ws.map fun x => ltD x.1)), W14 ns' c none) ∧ (∀ x ∈ ws, x ∈ c) ∧ ws.length ≤ 8 := by
  have r1 := takeI_range (ns := ns) (m := 9) (by decide)
  generalize hn1 : (takeI ns 9).2 = n1
  obtain ⟨j, hj⟩ : ∃ j : Nat, (takeI ns 9).1 = (j : Int) := ⟨_, (Int.toNat_of_nonneg r1.1).symm⟩
  have t1 : mCall [true, false] f__law_take (aC (mV 0) (aC (mC (.int 9)) aN)) (W14 ns c none) = some (.val (.int (j : Nat)), W14 n1 c none) := by
    rw [← hn1, ← hj]; exact take_call (i := 0) (m := W14 ns c none) rfl (.inr rfl) rfl (by decide)
  have t2 : ∀ b : Bool, decide (0 < (c.length : Int)) = b → mn cInt (aC (VL.m2 dGt (mn cLen (aC (mV 2) aN)) (mC (.int 0))) aN) (W14 n1 c none) = some (.val (.int (if b then 1 else 0)), W14 n1 c none) := by
    intro b hb
    have : VL.m2 dGt (mn cLen (aC (mV 2) aN)) (mC (.int 0)) (W14 n1 c none) = some (.val (.bl b), W14 n1 c none) := by
      show some (P.val (D.bl (decide (0 < ((c.map encC).length : Int)))), _) = _
      rw [List.length_map, hb]
    exact mn_run (aC_run this aN_run) rfl rfl
  -- how many letters
  obtain ⟨n, hn, hn8, hnc⟩ : ∃ n : Nat, iR1 (aC (VL.m2 dMul (mCall [true, false] f__law_take (aC (mV 0) (aC (mC (.int 9)) aN))) (mn cInt (aC (VL.m2 dGt (mn cLen (aC (mV 2) aN)) (mC (.int 0))) aN))) aN) (W14 ns c none) = some ((List.range n).map fun (i : Nat) => D.int (i : Nat), W14 n1 c none, none) ∧ n ≤ 8 ∧ (0 < n → 0 < c.length) := by
    by_cases q : 0 < (c.length : Int)
    · refine ⟨j, iR1_run (aC_run (m2_run t1 (t2 true (decide_eq_true q)) rfl rfl ?_) aN_run) (by omega), by omega, fun _ => by omega⟩
      have := mul_run (i := (j : Int)) (j := 1) (mulFit_r (by decide) (by decide))
      rw [Int.mul_one] at this
      exact this
    · refine ⟨0, iR1_run (aC_run (m2_run t1 (t2 false (decide_eq_false q)) rfl rfl ?_) aN_run) (by omega), by omega, fun k => by omega⟩
      have := mul_run (i := (j : Int)) (j := 0) (mulFit_r (by decide) (by decide))
      rw [Int.mul_zero] at this
      exact this
  obtain ⟨acc', m', h1, ws, ns', rfl, rfl, h2, h3⟩ := lcL_range (vs := [6]) (tg := gN 6) (tt := qYes) (el := VL.m2 dIx (VL.m2 dIx (mV 2) (mCall [true, false] f__law_take (aC (mV 0) (aC (mn cLen (aC (mV 2) aN)) aN)))) (mC (.int 0))) (n := n) (m := W14 n1 c none) (acc := []) (fun i acc m => ∃ (ws : Code) (ns' : List Int), acc = ws.map (fun x => ltD x.1) ∧ m = W14 ns' c none ∧ ws.length = i ∧ ∀ x ∈ ws, x ∈ c) (by
    rintro i m acc hi ⟨ws, n2, rfl, rfl, hw, hm⟩
    have hc0 := hnc (by omega)
    have r2 := takeI_range (ns := n2) (m := (c.length : Int)) (by omega)
    generalize hn3 : (takeI n2 (c.length : Int)).2 = n3
    obtain ⟨k, hk⟩ : ∃ k : Nat, (takeI n2 (c.length : Int)).1 = (k : Int) := ⟨_, (Int.toNat_of_nonneg r2.1).symm⟩
    have hkl : k < c.length := by omega
    have e1 : c[k]? = some c[k] := List.getElem?_eq_getElem hkl
    have t3 : mCall [true, false] f__law_take (aC (mV 0) (aC (mn cLen (aC (mV 2) aN)) aN)) (W14 n2 c (some (.shr, .int (i : Nat)))) = some (.val (.int (k : Nat)), W14 n3 c (some (.shr, .int (i : Nat)))) := by
      have := take_call (i := 0) (m := W14 n2 c (some (.shr, .int (i : Nat)))) (tg := .byr) (ns := n2) (e := mn cLen (aC (mV 2) aN)) (k := (c.length : Int)) rfl (.inr rfl) (by show some (P.val (D.int ((c.map encC).length : Int)), _) = _; rw [List.length_map]) (by omega)
      rw [hk, hn3] at this
      exact this
    have q1 : dIx (.tup (c.map encC)) (.int (k : Nat)) = some (.val (encC c[k])) := ix_tup_run (by rw [List.getElem?_map, e1]; rfl)
    have q2 : dIx (encC c[k]) (.int (0 : Nat)) = some (.val (ltD c[k].1)) := ix_tup_run rfl
    refine ⟨W14 n2 c (some (.shr, .int (i : Nat))), W14 n2 c (some (.shr, .int (i : Nat))), W14 n3 c (some (.shr, .int (i : Nat))), W14 n3 c (some (.shr, .int (i : Nat))), .val (ltD c[k].1), ltD c[k].1, rfl, rfl, m2_run (m2_run rfl t3 rfl rfl q1) rfl rfl rfl q2, rfl, rfl, by rw [List.length_map, hw, sizeLine_eq]; omega, ws ++ [c[k]], n3, by simp, rfl, by simp [hw], ?_⟩
    intro x hx
    rcases List.mem_append.mp hx with hx | hx
    · exact hm x hx
    · simp at hx; subst hx; exact List.getElem_mem hkl) ⟨[], n1, rfl, rfl, rfl, fun _ h => by cases h⟩
  exact ⟨ws, ns', lc_run hn rfl h1 rfl, h3, by omega⟩
/-- the due moves -/
theorem due_step (s : List (Int × Int)) (i : Nat) : ((List.range (i + 1)).map (adj s)).sum = ((List.range i).map (adj s)).sum + adj s i := by
  rw [List.range_succ, List.map_append, List.sum_append]
  simp
def V14 (ns : List Int) (c ws : Code) (j : Int) (x6 : Option D) : MS := [some (.byr, .lst (ns.map .int)), some (.shr, .lst (signsP.map encP)), some (.shr, .tup (c.map encC)), some (.shr, .dct (kys c) (vls c)), some (.shr, .str (wd ws)), some (.shr, .int j), sh x6, none, none, none, none, none, none, none]
theorem due_loop {c ws : Code} (g : Good c) (hw : ∀ x ∈ ws, x ∈ c) (hl : ws.length ≤ 8) (ns : List Int) : ∃ x6, sFor (iR2 (aC (mC (.int 1)) (aC (mn cLen (aC (mV 4) aN)) aN))) (gN 6)
    (sSet 5 false (VL.m2 dAdd (mV 5) (mCall [false, false] f__law_moves (aC (VL.m2 dIx (mV 3) (VL.m2 dIx (mV 4) (VL.m2 dSub (mV 6) (mC (.int 1))))) (aC (VL.m2 dIx (mV 3) (VL.m2 dIx (mV 4) (mV 6))) aN))))) (V14 ns c ws 0 none) = some (.nx, V14 ns c ws (pathP (ws.map (·.2))) x6) := by
  have hi : iR2 (aC (mC (.int 1)) (aC (mn cLen (aC (mV 4) aN)) aN)) (V14 ns c ws 0 none) = some ((List.range (ws.length - 1)).map fun (i : Nat) => D.int (1 + (i : Nat) * 1), V14 ns c ws 0 none, none) := by
    have e : mn cLen (aC (mV 4) aN) (V14 ns c ws 0 none) = some (.val (.int (ws.length : Nat)), V14 ns c ws 0 none) := by
      refine mn_run (aC_run rfl aN_run) rfl ?_
      show (if (wd ws).length ≤ sizeLine then some (il (wd ws).length) else none) = _
      rw [wd_len, if_pos (by rw [sizeLine_eq]; omega)]
    have e2 : aC (mC (.int 1)) (aC (mn cLen (aC (mV 4) aN)) aN) (V14 ns c ws 0 none) = some ([.val (.int 1), .val (.int (ws.length : Nat))], V14 ns c ws 0 none) := aC_run rfl (aC_run e aN_run)
    unfold iR2
    rw [e2]
    show (if -(2 ^ 62) ≤ (1 : Int) ∧ (1 : Int) < 2 ^ 62 ∧ -(2 ^ 62) ≤ (ws.length : Int) ∧ (ws.length : Int) < 2 ^ 62 then some (rangeD 1 1 ((ws.length : Int) - 1).toNat, _, none) else none) = _
    rw [if_pos (by omega), show ((ws.length : Int) - 1).toNat = ws.length - 1 by omega]
    rfl
  obtain ⟨m', h1, x6, h2⟩ := forL_at (tg := gN 6) (body := sSet 5 false (VL.m2 dAdd (mV 5) (mCall [false, false] f__law_moves (aC (VL.m2 dIx (mV 3) (VL.m2 dIx (mV 4) (VL.m2 dSub (mV 6) (mC (.int 1))))) (aC (VL.m2 dIx (mV 3) (VL.m2 dIx (mV 4) (mV 6))) aN))))) (fun (i : Nat) => D.int (1 + (i : Nat) * 1)) (fun k m => ∃ x6, m = V14 ns c ws (((List.range k).map (adj (ws.map (·.2)))).sum) x6) (xs := List.range (ws.length - 1)) (k := 0) (m := V14 ns c ws 0 none) (by
    rintro i x m hx ⟨x6, rfl⟩
    rw [Nat.zero_add]
    have hil := lt_of_get hx
    rw [List.length_range] at hil
    rw [List.getElem?_range hil] at hx
    cases hx
    have e1 : ws[i]? = some ws[i] := List.getElem?_eq_getElem (by omega)
    have e2 : ws[i + 1]? = some (ws[i + 1]'(by omega)) := List.getElem?_eq_getElem (by omega)
    have ea : adj (ws.map (·.2)) i = mvP ws[i].2 (ws[i + 1]'(by omega)).2 := by
      unfold adj
      rw [List.getElem?_map, List.getElem?_map, e1, e2]
      rfl
    have hz : ws.length ≤ sizeLine := by rw [sizeLine_eq]; omega
    have q1 := wd_at e1 hz
    have q2 := wd_at e2 hz
    have m1 := hw _ (List.getElem_mem (l := ws) (n := i) (by omega))
    have m2 := hw _ (List.getElem_mem (l := ws) (n := i + 1) (by omega))
    have d1 : dIx (.dct (kys c) (vls c)) (ltD ws[i].1) = some (.val (encP ws[i].2)) := by
      show (match dctAt (kys c) (vls c) (ltK ws[i].1) with | some d => some (P.val d) | none => none) = _
      rw [dct_mem g.nd m1]
    have d2 : dIx (.dct (kys c) (vls c)) (ltD (ws[i + 1]'(by omega)).1) = some (.val (encP (ws[i + 1]'(by omega)).2)) := by
      show (match dctAt (kys c) (vls c) (ltK (ws[i + 1]'(by omega)).1) with | some d => some (P.val d) | none => none) = _
      rw [dct_mem g.nd m2]
    rw [due_step, ea]
    generalize ((List.range i).map (adj (ws.map (·.2)))).sum = s
    have q2' : dIx (.str (wd ws)) (.int (1 + (i : Int) * 1)) = some (.val (ltD (ws[i + 1]'(by omega)).1)) := by
      rw [show (1 + (i : Int) * 1) = ((i + 1 : Nat) : Int) by omega]; exact q2
    have q1' : dIx (.str (wd ws)) (.int (1 + (i : Int) * 1 - 1)) = some (.val (ltD ws[i].1)) := by
      rw [show (1 + (i : Int) * 1 - 1) = ((i : Nat) : Int) by omega]; exact q1
    generalize (1 + (i : Int) * 1) = j at q1' q2' ⊢
    have k1 : gN 6 (.int j) (V14 ns c ws s x6) = some (V14 ns c ws s (some (.int j))) := by cases x6 <;> rfl
    refine ⟨_, V14 ns c ws (s + mvP ws[i].2 (ws[i + 1]'(by omega)).2) (some (.int j)), .nx, k1, ?_, .inl rfl, some (.int j), rfl⟩
    refine set_run (p := .val (.int (s + mvP ws[i].2 (ws[i + 1]'(by omega)).2))) (m2_run (p := .val (.int s)) rfl (lawMovesC (g.sg _ m1) (g.sg _ m2) (aC_run (m2_run rfl (m2_run rfl (m2_run rfl rfl rfl rfl rfl) rfl rfl q1') rfl rfl d1) (aC_run (m2_run rfl (m2_run rfl rfl rfl rfl q2') rfl rfl d2) aN_run))) rfl rfl rfl) rfl) ⟨none, rfl⟩
  rw [Nat.zero_add, List.length_range] at h2
  refine ⟨x6, for_run hi h1 ?_⟩
  rw [h2, path_sum, List.length_map]
  rfl
end P69

set_option Elab.async false
set_option linter.all false
set_option maxRecDepth 100000
set_option autoImplicit false
namespace P69
open PySem PySem.Spec L2 VL
theorem mM_run {T : String} {g : D → List D → Option P} {fo : EF} {fs : AF} {m m1 m2 : MS} {p r : P} {d0 d : D} {ps : List P} {ds : List D} (h1 : fo m = some (p, m1)) (h2 : rd p m1 = some d0) (hk : kindR T d0 = true) (h3 : fs m1 = some (ps, m2)) (h4 : rd p m2 = some d) (h5 : rds ps m2 = some ds) (h6 : g d ds = some r) : mM T g fo fs m = some (r, m2) := by
  unfold mM; rw [h1]; dsimp only; rw [h2]; dsimp only; rw [if_pos hk, h3]; dsimp only; rw [h4, h5]; dsimp only; rw [h6]
section
variable {fs : AF} {m m1 : MS} {c ws : Code} {p : Int × Int}
theorem wordC (g : Good c) (hc : c.length ≤ 100) (hw : ∀ x ∈ ws, x ∈ c) (hl : ws.length ≤ 8) (h : fs m = some ([.val (.tup (c.map encC)), .val (.str (wd ws))], m1)) : mCall [false, false] f_moves_of_word fs m = some (.val (.int (pathP (ws.map (·.2)))), m1) :=
  call_run h rfl (moves_of_word_ok g hc hw (by omega)) rfl rfl rfl
theorem wordCz (g : Good c) (hc : c.length ≤ 100) (hl : ws.length ≤ 8) (h : fs m = some ([.val (.tup (c.map encC)), .val (.str (wd ws ++ "z"))], m1)) : mCall [false, false] f_moves_of_word fs m = some (.val .non, m1) :=
  call_run h rfl (moves_of_word_z g hc (by omega)) rfl rfl rfl
theorem misC (hc : c.length ≤ 100) (h : fs m = some ([.val (encP p), .val (.tup (c.map encC))], m1)) : mCall [false, false] f_misread fs m = some (.val (.tup (misP p c)), m1) :=
  call_run h rfl (misread_ok hc) rfl rfl rfl
theorem letC (hc : c.length ≤ 100) (h : fs m = some ([.val (.tup (c.map encC))], m1)) : mCall [false] f_letters_alike_behind fs m = some (.val (.tup (lettersP c)), m1) :=
  call_run h rfl (letters_ok hc) rfl rfl rfl
end
/-- the letters that the law sorts -/
def X14 (ns : List Int) (c ws : Code) (j : Int) (x6 : Option D) (p : Int × Int) (x8 x9 x10 x11 : Option (Tag × D)) : MS := [some (.byr, .lst (ns.map .int)), some (.shr, .lst (signsP.map encP)), some (.shr, .tup (c.map encC)), some (.shr, .dct (kys c) (vls c)), some (.shr, .str (wd ws)), some (.shr, .int j), sh x6, some (.shr, encP p), x8, x9, x10, x11, none, none]
theorem some_lc {c ws : Code} (g : Good c) (hc : c.length ≤ 100) {ns : List Int} {j : Int} {x6 : Option D} {p : Int × Int} (hp : p ∈ signsP) :
    mLc [10, 11] (iSeq (mV 2)) (gT 2 (gsC (gN 10) (gsC (gN 11) gsN))) (tOf (VL.m2 dEqO (VL.m1 cLenSet (VL.m2 dAdd (mV 11) (mV 7))) (mC (.int 3)))) (mV 10) (X14 ns c ws j x6 p none none none none) =
      some (.fresh (.lst ((c.filter fun x => oneP p x.2).map fun x => ltD x.1)), X14 ns c ws j x6 p none none none none) := by
  refine lc_run (ds := c.map encC) (m1 := X14 ns c ws j x6 p none none none none) (m2 := X14 ns c ws j x6 p none none none none) (bk := none) rfl rfl ?_ rfl
  refine lcL_map encC (fun x => oneP p x.2) (fun x => ltD x.1) (acc := []) (fun x hx => ?_) (by rw [sizeLine_eq, List.length_nil]; omega)
  have e : tOf (VL.m2 dEqO (VL.m1 cLenSet (VL.m2 dAdd (mV 11) (mV 7))) (mC (.int 3))) (X14 ns c ws j x6 p none none (some (.shr, ltD x.1)) (some (.shr, encP x.2))) = some (oneP p x.2, X14 ns c ws j x6 p none none (some (.shr, ltD x.1)) (some (.shr, encP x.2))) := by
    have e1 : dAdd (encP x.2) (encP p) = some (.val (.tup [.int x.2.1, .int x.2.2, .int p.1, .int p.2])) := by
      show (if 4 ≤ sizeLine then some (P.val (D.tup [.int x.2.1, .int x.2.2, .int p.1, .int p.2])) else none) = _
      rw [if_pos (by decide)]
    have e2 : cLenSet (.tup [.int x.2.1, .int x.2.2, .int p.1, .int p.2]) = some (.val (.int (nubI [x.2.1, x.2.2, p.1, p.2]).length)) := by
      show (if 5 < scanBound then some (P.val (D.int (nubI [x.2.1, x.2.2, p.1, p.2]).length)) else none) = _
      rw [if_pos (by decide)]
    refine tOf_run (m2_run (m1_run (m2_run rfl rfl rfl rfl e1) rfl e2) rfl rfl rfl ?_)
    show some (bl (((nubI [x.2.1, x.2.2, p.1, p.2]).length : Int) == 3)) = some (bl (oneP p x.2))
    rw [fact_one p hp x.2 (g.sg x hx)]
  exact ⟨fun k => ⟨X14 ns c ws j x6 p none none (some (.shr, ltD x.1)) (some (.shr, encP x.2)), X14 ns c ws j x6 p none none (some (.shr, ltD x.1)) (some (.shr, encP x.2)), X14 ns c ws j x6 p none none (some (.shr, ltD x.1)) (some (.shr, encP x.2)), X14 ns c ws j x6 p none none (some (.shr, ltD x.1)) (some (.shr, encP x.2)), .val (ltD x.1), rfl, e.trans (by rw [k]), rfl, rfl, rfl, rfl⟩, fun k => ⟨X14 ns c ws j x6 p none none (some (.shr, ltD x.1)) (some (.shr, encP x.2)), X14 ns c ws j x6 p none none (some (.shr, ltD x.1)) (some (.shr, encP x.2)), rfl, e.trans (by rw [k]), rfl, rfl⟩⟩
theorem beh_sort (p : Int × Int) : cSorted [.lst [.int ((8 - p.1) % 8), .int ((8 - p.2) % 8)]] = some (.fresh (.lst [.int (behP p).1, .int (behP p).2])) := by
  rw [sort2, show (8 - p.1) % 8 = -p.1 % 8 by omega, show (8 - p.2) % 8 = -p.2 % 8 by omega]
  unfold behP srtP
  split <;> rfl
def Y14 (ns : List Int) (c ws : Code) (j : Int) (x6 : Option D) (x8 : D) (f : List D) (a b e g : Option D) : MS := [some (.byr, .lst (ns.map .int)), some (.shr, .lst (signsP.map encP)), some (.shr, .tup (c.map encC)), some (.shr, .dct (kys c) (vls c)), some (.shr, .str (wd ws)), some (.shr, .int j), sh x6, sh g, some (.shr, x8), some (.own, .lst f), sh a, sh b, sh e, none]
theorem pairs_loop {c ws : Code} (hc : c.length ≤ 100) {ns : List Int} {j : Int} {x6 : Option D} {x8 : D} (p : Int × Int) : ∃ a b e g, forL (gT 2 (gsC (gN 10) (gsC (gN 11) gsN))) (sFor (iSeq (mV 2)) (gT 2 (gsC (gN 12) (gsC (gN 7) gsN)))
    (sIf (qAnd (tOf (VL.m2 dLt (mV 10) (mV 12))) (tOf (VL.m2 dEqO (mn cSorted (aC (mLc [13] (iSeq (mV 11)) (gN 13) qYes (VL.m2 dMod (mn cInt (aC (VL.m2 dSub (mC (.int 8)) (mV 13)) aN)) (mC (.int 8)))) aN)) (mn cList (aC (mV 7) aN)))))
    (sExpr (mW "list" 9 wAppend (aC (mTup (aC (mV 10) (aC (mV 12) aN))) aN)))
    sNil)) (c.map encC) (Y14 ns c ws j x6 x8 [] none none none (some (encP p))) = some (.nx, Y14 ns c ws j x6 x8 ((pout alike2 c c []).map encL) a b e g) :=
  nested (St := Y14 ns c ws j x6 x8) (T := alike2) (c := c) hc
    (fun f a b e g x _ => by cases a <;> cases b <;> rfl) (fun f a b e g x _ => by cases e <;> cases g <;> rfl) (fun f a b e g => rfl)
    (fun f x y _ _ => by
      generalize hS : Y14 ns c ws j x6 x8 f (some (ltD x.1)) (some (encP x.2)) (some (ltD y.1)) (some (encP y.2)) = S
      have q1 : tOf (VL.m2 dLt (mV 10) (mV 12)) S = some (decide ((lt x.1).cps.toList < (lt y.1).cps.toList), S) := by rw [← hS]; rfl
      have lc : mLc [13] (iSeq (mV 11)) (gN 13) qYes (VL.m2 dMod (mn cInt (aC (VL.m2 dSub (mC (.int 8)) (mV 13)) aN)) (mC (.int 8))) S = some (.fresh (.lst [.int ((8 - x.2.1) % 8), .int ((8 - x.2.2) % 8)]), S) := by rw [← hS]; rfl
      have ls : mn cList (aC (mV 7) aN) S = some (.fresh (.lst [.int y.2.1, .int y.2.2]), S) := by rw [← hS]; rfl
      have q2 : tOf (VL.m2 dEqO (mn cSorted (aC (mLc [13] (iSeq (mV 11)) (gN 13) qYes (VL.m2 dMod (mn cInt (aC (VL.m2 dSub (mC (.int 8)) (mV 13)) aN)) (mC (.int 8)))) aN)) (mn cList (aC (mV 7) aN))) S = some (dEq (encP (behP x.2)) (encP y.2), S) :=
        tOf_run (m2_run (mn_run (aC_run lc aN_run) rfl (beh_sort x.2)) ls rfl rfl rfl)
      unfold alike2
      cases hb : decide ((lt x.1).cps.toList < (lt y.1).cps.toList) with
      | true => rw [hb] at q1; rw [Bool.true_and]; exact qAnd_t q1 q2
      | false => rw [hb] at q1; rw [Bool.false_and]; exact qAnd_f q1)
    (fun f x y hz => expr_run (w_run (tg := .own) (tg2 := .own) (d0 := .lst f) (d := .lst f) (d' := .lst (f ++ [encL (x.1, y.1)])) rfl rfl (aC_run (tup_run (ds := [ltD x.1, ltD y.1]) rfl rfl (by show 2 ≤ sizeLine; decide)) aN_run) rfl rfl (wAppend_run hz) rfl))
    none none none (some (encP p))
theorem code_right_ok (ns : List Int) : ∃ ns' : List Int, f__law_code_right [.lst (ns.map .int), .lst (signsP.map encP)] = some (.val (.bl true), [.lst (ns'.map .int)]) := by
  have r1 := takeI_range (ns := ns) (m := 13) (by decide)
  generalize hn1 : (takeI ns 13).2 = n1
  obtain ⟨many, hmany⟩ : ∃ j : Nat, (takeI ns 13).1 = (j : Int) := ⟨_, (Int.toNat_of_nonneg r1.1).symm⟩
  obtain ⟨c, n2, hcode, g, hlen⟩ := code_ok n1 many (by omega)
  have hc : c.length ≤ 100 := by omega
  let Z (ns : List Int) (x2 x3 x4 x5 x6 : Option (Tag × D)) : MS := [some (.byr, .lst (ns.map .int)), some (.shr, .lst (signsP.map encP)), x2, x3, x4, x5, x6, none, none, none, none, none, none, none]
  have s1 : mCall [true, false, false] f__law_code (aC (mV 0) (aC (mV 1) (aC (mCall [true, false] f__law_take (aC (mV 0) (aC (mC (.int 13)) aN))) aN))) (Z ns none none none none none) = some (.val (.tup (c.map encC)), Z n2 none none none none none) := by
    have t1 : mCall [true, false] f__law_take (aC (mV 0) (aC (mC (.int 13)) aN)) (Z ns none none none none none) = some (.val (.int (many : Nat)), Z n1 none none none none none) := by
      rw [← hn1, ← hmany]; exact take_call (i := 0) (m := Z ns none none none none none) rfl (.inr rfl) rfl (by decide)
    refine call_run (ps := [.bor 0, .val (.lst (signsP.map encP)), .val (.int (many : Nat))]) (m1 := Z n1 none none none none none) (ds := [.lst (n1.map .int), .lst (signsP.map encP), .int (many : Nat)]) (rs := [.lst (n2.map .int)]) (aC_run rfl (aC_run rfl (aC_run t1 aN_run))) rfl hcode rfl ?_ rfl
    show ((true || _) && ((noLsts (n2.map D.int) && true) || _)) = true
    rw [noLsts_ints]
    rfl
  obtain ⟨ws, n3, hlc, hw, hwl⟩ := word_lc hc n2
  obtain ⟨x6, hdue⟩ := due_loop g hw hwl n3
  have r2 := takeI_range (ns := n3) (m := 28) (by decide)
  obtain ⟨p, hp, ep⟩ := pick r2
  generalize hn4 : (takeI n3 28).2 = n4
  generalize hj : pathP (ws.map (·.2)) = j at hdue
  obtain ⟨a, b, e, gg, hpr⟩ := pairs_loop (c := c) (ws := ws) hc (ns := n4) (j := j) (x6 := x6) (x8 := .lst (misP p c)) p
  refine ⟨n4, def_rt (m1 := Y14 n4 c ws j x6 (.lst (misP p c)) ((pout alike2 c c []).map encL) a b e gg) rfl ?_ rfl⟩
  unfold g__law_code_right
  refine seq_nx (m1 := Z n2 (some (.shr, .tup (c.map encC))) none none none none) (set_run s1 rfl) ?_
  refine seq_nx (m1 := W14 n2 c none) (set_run (mn_run (aC_run rfl aN_run) rfl (dict_code g.nd)) rfl) ?_
  have hjoin : mM "str" mJoin (mC (.str "")) (aC MK aN) (W14 n2 c none) = some (.val (.str (wd ws)), W14 n3 c none) := by
    exact mM_run rfl rfl rfl (aC_run hlc aN_run) rfl rfl (join_run (by omega))
  refine seq_nx (m1 := Z n3 (some (.shr, .tup (c.map encC))) (some (.shr, .dct (kys c) (vls c))) (some (.shr, .str (wd ws))) none none) (set_run hjoin rfl) ?_
  refine seq_nx (m1 := V14 n3 c ws 0 none) rfl ?_
  refine seq_nx hdue ?_
  generalize hF : V14 n3 c ws j x6 = F
  have w2 : mV 2 F = some (.val (.tup (c.map encC)), F) := by rw [← hF]; rfl
  have w4 : mV 4 F = some (.val (.str (wd ws)), F) := by rw [← hF]; rfl
  have w5 : mV 5 F = some (.val (.int j), F) := by rw [← hF]; rfl
  have v1 : mCall [false, false] f_moves_of_word (aC (mV 2) (aC (mV 4) aN)) F = some (.val (.int j), F) := by rw [← hj]; exact wordC g hc hw hwl (aC_run w2 (aC_run w4 aN_run))
  have v2 : mCall [false, false] f_moves_of_word (aC (mV 2) (aC (VL.m1 dRev (mV 4)) aN)) F = some (.val (.int j), F) := by
    have e1 : VL.m1 dRev (mV 4) F = some (.val (.str (wd ws.reverse)), F) := by
      refine m1_run w4 rfl ?_
      show (if (wd ws).length ≤ sizeLine then some (P.val (.str (revS (wd ws)))) else none) = _
      rw [wd_len, if_pos (by rw [sizeLine_eq]; omega), wd_rev]
    have := wordC (ws := ws.reverse) g hc (fun x hx => hw x (List.mem_reverse.mp hx)) (by rw [List.length_reverse]; exact hwl) (aC_run w2 (aC_run e1 (aN_run (m := F))))
    rw [List.map_reverse, path_rev _ (fun q hq => by obtain ⟨x, hx, rfl⟩ := List.mem_map.mp hq; exact g.sg x (hw x hx)), hj] at this
    exact this
  have v3 : mCall [false, false] f_moves_of_word (aC (mV 2) (aC (VL.m2 dAdd (mV 4) (mC (.str "z"))) aN)) F = some (.val .non, F) := by
    have e1 : VL.m2 dAdd (mV 4) (mC (.str "z")) F = some (.val (.str (wd ws ++ "z")), F) := by
      refine m2_run w4 rfl rfl rfl ?_
      show (if (wd ws).length + 1 ≤ sizeLine then some (P.val (.str (wd ws ++ "z"))) else none) = _
      rw [wd_len, if_pos (by rw [sizeLine_eq]; omega)]
    exact wordCz g hc hwl (aC_run w2 (aC_run e1 aN_run))
  refine skip_if (m1 := F) (qOr_f (nsameI (aC_run v1 (aC_run w5 aN_run))) (qOr_f (nsameI (aC_run v2 (aC_run w5 aN_run))) (tOf_run (m2_run v3 rfl rfl rfl rfl)))) ?_
  subst hF
  have tk : mCall [true, false] f__law_take (aC (mV 0) (aC (mC (.int 28)) aN)) (V14 n3 c ws j x6) = some (.val (.int (takeI n3 28).1), V14 n4 c ws j x6) := by
    rw [← hn4]; exact take_call (i := 0) (m := V14 n3 c ws j x6) rfl (.inr rfl) rfl (by decide)
  refine seq_nx (m1 := X14 n4 c ws j x6 p none none none none) (set_run (m2_run rfl tk rfl rfl ep) rfl) ?_
  refine seq_nx (m1 := X14 n4 c ws j x6 p (some (.shr, .lst (misP p c))) none none none) (set_run (mn_run (aC_run (some_lc g hc hp) aN_run) rfl (sort_lts _)) rfl) ?_
  have v4 := same_sorted (f := fun x : Nat × (Int × Int) => ltD x.1) (l := c.filter fun x => oneP p x.2) (fs := aC (mCall [false, false] f_misread (aC (mV 7) (aC (mV 2) aN))) (aC (mn cTuple (aC (mV 8) aN)) aN)) (m := X14 n4 c ws j x6 p (some (.shr, .lst (misP p c))) none none none) (m1 := X14 n4 c ws j x6 p (some (.shr, .lst (misP p c))) none none none) (aC_run (misC (p := p) hc rfl) rfl) (fun _ => rfl) (fun _ => rfl) (fun _ => rfl) (Nat.le_trans (List.length_filter_le _ _) (by omega))
  refine skip_if (m1 := X14 n4 c ws j x6 p (some (.shr, .lst (misP p c))) none none none) (qNot_run (b := true) (tOf_run v4)) ?_
  refine seq_nx (m1 := Y14 n4 c ws j x6 (.lst (misP p c)) [] none none none (some (encP p))) rfl ?_
  refine seq_nx (for_run (ds := c.map encC) (m1 := Y14 n4 c ws j x6 (.lst (misP p c)) [] none none none (some (encP p))) (bk := none) rfl hpr rfl) ?_
  refine ret_val (same_sorted (f := encL) (l := pout alike2 c c []) (aC_run (letC hc rfl) (aC_run (mn_run (aC_run (mn_run (aC_run (p := .bor 9) rfl aN_run) rfl (sort_prs _)) aN_run) rfl rfl) aN_run)) (fun _ => rfl) (fun _ => rfl) (fun _ => rfl) ?_)
  refine Nat.le_trans pout_len ?_
  have := Nat.mul_le_mul hc hc
  rw [List.length_nil]; omega
end P69

set_option Elab.async false
set_option linter.all false
set_option maxRecDepth 100000
set_option autoImplicit false
namespace P69
open PySem PySem.Spec L2 VL
def L7 (xs ns : List Int) (x2 : List D) (x3 x4 : Option D) (x5 : Option (Tag × D)) : MS := [some (.shr, .frz (xs.map .int)), some (.own, .lst (ns.map .int)), some (.shr, .lst x2), sh x3, sh x4, x5, none]
theorem all_signs_ok : f_all_signs [] = some (.val (.tup (signsP.map encP)), []) := by rfl
theorem signs_loop (xs ns : List Int) : sFor (iR1 (aC (mC (.int 8)) aN)) (gN 3)
    (sSet 2 false (VL.m2 dAdd (mV 2) (mLc [6] (iR2 (aC (VL.m2 dAdd (mV 3) (mC (.int 1))) (aC (mC (.int 8)) aN))) (gN 6) qYes (mTup (aC (mV 3) (aC (mV 6) aN)))))) (L7 xs ns [] none none none) = some (.nx, L7 xs ns (signsP.map encP) (some (.int 7)) none none) := by kernel_rfl
theorem six_loop (xs ns : List Int) (x3 : Option D) : ∃ ns' x4, sFor (iR1 (aC (mC (.int 6)) aN)) (gN 4)
    (sIf (qOr (qNot (tOf (mCall [true, false, false] f__law_signs_right (aC (mV 1) (aC (mV 0) (aC (mV 2) aN)))))) (qNot (tOf (mCall [true, false] f__law_code_right (aC (mV 1) (aC (mV 2) aN))))))
    (sRet (mC (.bl false)))
    sNil) (L7 xs ns (signsP.map encP) x3 none none) = some (.nx, L7 xs ns' (signsP.map encP) x3 x4 none) := by
  obtain ⟨m', h1, ns', x4, rfl⟩ := forL_range (tg := gN 4) (body := sIf (qOr (qNot (tOf (mCall [true, false, false] f__law_signs_right (aC (mV 1) (aC (mV 0) (aC (mV 2) aN)))))) (qNot (tOf (mCall [true, false] f__law_code_right (aC (mV 1) (aC (mV 2) aN))))))
    (sRet (mC (.bl false)))
    sNil) (fun _ m => ∃ ns' x4, m = L7 xs ns' (signsP.map encP) x3 x4 none) (n := 6) (m := L7 xs ns (signsP.map encP) x3 none none) (by
    rintro i m hi ⟨n1, x4, rfl⟩
    obtain ⟨n2, h2⟩ := signs_right_ok n1 xs
    obtain ⟨n3, h3⟩ := code_right_ok n2
    have c1 : mCall [true, false, false] f__law_signs_right (aC (mV 1) (aC (mV 0) (aC (mV 2) aN))) (L7 xs n1 (signsP.map encP) x3 (some (.int (i : Nat))) none) = some (.val (.bl true), L7 xs n2 (signsP.map encP) x3 (some (.int (i : Nat))) none) :=
      call_run (ps := [.bor 1, .val (.frz (xs.map .int)), .val (.lst (signsP.map encP))]) (ds := [.lst (n1.map .int), .frz (xs.map .int), .lst (signsP.map encP)]) (rs := [.lst (n2.map .int)]) rfl rfl h2 rfl (by
        show ((true || _) && ((noLsts (n2.map D.int) && true) || _)) = true
        rw [noLsts_ints]; rfl) rfl
    have c2 : mCall [true, false] f__law_code_right (aC (mV 1) (aC (mV 2) aN)) (L7 xs n2 (signsP.map encP) x3 (some (.int (i : Nat))) none) = some (.val (.bl true), L7 xs n3 (signsP.map encP) x3 (some (.int (i : Nat))) none) :=
      call_run (ps := [.bor 1, .val (.lst (signsP.map encP))]) (ds := [.lst (n2.map .int), .lst (signsP.map encP)]) (rs := [.lst (n3.map .int)]) rfl rfl h3 rfl (by
        show ((true || _) && ((noLsts (n3.map D.int) && true) || _)) = true
        rw [noLsts_ints]; rfl) rfl
    refine ⟨L7 xs n1 (signsP.map encP) x3 (some (.int (i : Nat))) none, L7 xs n3 (signsP.map encP) x3 (some (.int (i : Nat))) none, .nx, by cases x4 <;> rfl, ?_, .inl rfl, n3, _, rfl⟩
    exact if_f (qOr_f (qNot_run (b := true) (tOf_run c1)) (qNot_run (b := true) (tOf_run c2))) rfl) ⟨ns, none, rfl⟩
  exact ⟨ns', x4, for_run (iR1_run rfl (by decide)) h1 rfl⟩
def cc : Code := [(0, (0, 1)), (1, (0, 7)), (2, (2, 5)), (3, (0, 4))]
theorem cc_good : Good cc := ⟨by decide, by decide, by decide +kernel⟩
theorem mis_cc : misP (0, 1) cc = [.str "b", .str "d"] := by
  show ([ltD 1, ltD 3]).mergeSort dLeD = _
  have e : dLeD (ltD 1) (ltD 3) = true := by rw [dLe_str]; decide
  simp [List.mergeSort, List.MergeSort.Internal.splitInTwo, List.merge, e]
  exact ⟨rfl, rfl⟩
theorem let_cc : lettersP cc = [.tup [.str "a", .str "b"]] := by
  show ([encL (0, 1)]).mergeSort dLeD = _
  simp [List.mergeSort]
  rfl
end P69

set_option Elab.async false
set_option linter.all false
set_option maxRecDepth 100000
set_option autoImplicit false
namespace P69
open PySem PySem.Spec L2 VL
theorem nsameD {fs : AF} {m m1 : MS} {d e : D} (h : fs m = some ([.val d, .val e], m1)) (q : d = e) (hf : flatB d 5 = true) (ho : dOk d far = true) (hz : sizeD d = true) : mCall [false, false] f__law_same fs m = some (.val (.bl true), m1) := by
  subst q; exact same_call h hf ho hz
theorem abc_eq : wd [(0, (0, 1)), (1, (0, 7)), (2, (2, 5))] = "abc" := by rfl
theorem c_eq : wd [(2, (2, 5))] = "c" := by rfl
theorem empty_eq : wd [] = "" := by rfl
theorem nil_good : Good [] := ⟨List.nodup_nil, (fun _ h => by cases h), (fun _ h => by cases h)⟩
theorem bAnd_run {f g : EF} {m : MS} {p : P} (h : f m = some (.val (.bl true), m)) (k : g m = some (p, m)) : bAnd f g m = some (p, m) := by
  unfold bAnd; rw [h]; exact k
theorem law_ok (xs : List Int) (hx : xs.length ≤ 100) : f_law [.frz (xs.map .int)] = some (.val (.bl true), []) := by
  obtain ⟨ns, hd⟩ := draws_ok xs 320 hx (by decide)
  obtain ⟨ns', x4, h6⟩ := six_loop xs ns (some (.int 7))
  generalize hF : L7 xs ns' (signsP.map encP) (some (.int 7)) x4 (some (.shr, .tup (cc.map encC))) = F
  have w5 : mV 5 F = some (.val (.tup (cc.map encC)), F) := by rw [← hF]; rfl
  refine def_rt (m1 := F) rfl ?_ (by rw [← hF]; rfl)
  unfold g_law
  have hd' : mCall [false, false] f__law_draws (aC (mV 0) (aC (mC (.int 320)) aN)) (entry [false] [.frz (xs.map .int)] 6) = some (.fresh (.lst (ns.map .int)), entry [false] [.frz (xs.map .int)] 6) :=
    call_run (ps := [.val (.frz (xs.map .int)), .val (.int 320)]) rfl rfl hd rfl rfl rfl
  refine seq_nx (set_run hd' rfl) ?_
  refine seq_nx (m1 := L7 xs ns [] none none none) rfl ?_
  refine seq_nx (signs_loop xs ns) ?_
  have a1 : mCall [false, false] f__law_same (aC (mCall [] f_all_signs aN) (aC (mn cTuple (aC (mV 2) aN)) aN)) (L7 xs ns (signsP.map encP) (some (.int 7)) none none) = some (.val (.bl true), L7 xs ns (signsP.map encP) (some (.int 7)) none none) :=
    same_call (d := .tup (signsP.map encP)) (aC_run (call_run rfl rfl all_signs_ok rfl rfl rfl) rfl) (by decide +kernel) (by decide +kernel) (by decide +kernel)
  refine skip_if (qNot_run (b := true) (tOf_run a1)) ?_
  refine seq_nx h6 ?_
  refine seq_nx (m1 := F) (by rw [← hF]; rfl) ?_
  have pr : ∀ (a b : Int), mTup (aC (mC (.int a)) (aC (mC (.int b)) aN)) F = some (.val (encP (a, b)), F) := fun a b => rfl
  have mv1 : ∀ (a b x y j : Int), mvP (a, b) (x, y) = j → mCall [false, false] f__law_same (aC (mCall [false, false] f_moves_between (aC (mTup (aC (mC (.int a)) (aC (mC (.int b)) aN))) (aC (mTup (aC (mC (.int x)) (aC (mC (.int y)) aN))) aN))) (aC (mC (.int j)) aN)) F = some (.val (.bl true), F) := fun a b x y j h => by
    subst h
    exact same_call (aC_run (movesC (aC_run (pr a b) (aC_run (pr x y) aN_run))) rfl) rfl rfl rfl
  refine skip_if (m1 := F) (qOr_f (qNot_run (b := true) (tOf_run (mv1 0 1 4 5 6 (by decide)))) (qOr_f (qNot_run (b := true) (tOf_run (mv1 0 7 0 1 2 (by decide)))) (qNot_run (b := true) (tOf_run (mv1 0 4 2 6 4 (by decide)))))) ?_
  have b1 : mCall [false, false] f__law_same (aC (mCall [false, false] f_moves_of_word (aC (mV 5) (aC (mC (.str "abc")) aN))) (aC (mC (.int 6)) aN)) F = some (.val (.bl true), F) := by
    rw [← abc_eq]
    exact nsameD (aC_run (wordC (c := cc) (ws := [(0, (0, 1)), (1, (0, 7)), (2, (2, 5))]) cc_good (by decide) (by decide) (by decide) (aC_run w5 rfl)) rfl) (congrArg D.int (by decide)) rfl rfl rfl
  have b2 : mCall [false, false] f__law_same (aC (mCall [false, false] f_misread (aC (mTup (aC (mC (.int 0)) (aC (mC (.int 1)) aN))) (aC (mV 5) aN))) (aC (mTup (aC (mC (.str "b")) (aC (mC (.str "d")) aN))) aN)) F = some (.val (.bl true), F) := by
    have q := misC (c := cc) (p := (0, 1)) (by decide) (aC_run (pr 0 1) (aC_run w5 (aN_run (m := F))))
    rw [mis_cc] at q
    exact same_call (aC_run q rfl) rfl rfl rfl
  have b3 : mCall [false, false] f__law_same (aC (mCall [false] f_letters_alike_behind (aC (mV 5) aN)) (aC (mTup (aC (mTup (aC (mC (.str "a")) (aC (mC (.str "b")) aN))) aN)) aN)) F = some (.val (.bl true), F) := by
    have q := letC (c := cc) (by decide) (aC_run w5 (aN_run (m := F)))
    rw [let_cc] at q
    exact same_call (aC_run q rfl) rfl rfl rfl
  refine skip_if (m1 := F) (qOr_f (qNot_run (b := true) (tOf_run b1)) (qOr_f (qNot_run (b := true) (tOf_run b2)) (qNot_run (b := true) (tOf_run b3)))) ?_
  have d1 : mCall [false, false] f__law_same (aC (mCall [false, false] f_turned_sign (aC (mTup (aC (mC (.int 0)) (aC (mC (.int 7)) aN))) (aC (mC (.int 3)) aN))) (aC (mTup (aC (mC (.int 2)) (aC (mC (.int 3)) aN))) aN)) F = some (.val (.bl true), F) :=
    nsameD (aC_run (turnC (p := (0, 7)) (e := 3) (aC_run (pr 0 7) rfl)) (aC_run (pr 2 3) aN_run)) rfl rfl rfl rfl
  have d2 : mCall [false, false] f__law_same (aC (mCall [false] f_seen_from_behind (aC (mTup (aC (mC (.int 0)) (aC (mC (.int 4)) aN))) aN)) (aC (mTup (aC (mC (.int 0)) (aC (mC (.int 4)) aN))) aN)) F = some (.val (.bl true), F) :=
    nsameD (aC_run (behC (p := (0, 4)) (aC_run (pr 0 4) aN_run)) (aC_run (pr 0 4) aN_run)) rfl rfl rfl rfl
  have d3 : mCall [false, false] f__law_same (aC (mCall [false, false] f_moves_of_word (aC (mTup aN) (aC (mC (.str "")) aN))) (aC (mC (.int 0)) aN)) F = some (.val (.bl true), F) := by
    rw [← empty_eq]
    exact nsameD (aC_run (wordC (c := []) (ws := []) nil_good (by decide) (by decide) (by decide) rfl) rfl) (congrArg D.int (by decide)) rfl rfl rfl
  have d4 : mCall [false, false] f__law_same (aC (mCall [false, false] f_moves_of_word (aC (mV 5) (aC (mC (.str "c")) aN))) (aC (mC (.int 0)) aN)) F = some (.val (.bl true), F) := by
    rw [← c_eq]
    exact nsameD (aC_run (wordC (c := cc) (ws := [(2, (2, 5))]) cc_good (by decide) (by decide) (by decide) (aC_run w5 rfl)) rfl) (congrArg D.int (by decide)) rfl rfl rfl
  exact ret_val (bAnd_run d1 (bAnd_run d2 (bAnd_run d3 d4)))
end P69

set_option Elab.async false
set_option linter.all false
set_option maxRecDepth 100000
set_option autoImplicit false
namespace P69
open PySem PySem.Spec PyProof.Rows L2 VL
theorem all_mk {l : PySem.W.OpenLaw} {w : World} {K : PySem.W.Frag} {h : Heap} {mg : Str → Option Value} {fa x0 x1 x2 x3 x4 x5 x6 x7 x8 x9 x10 x11 x12 x13 x14 x15 x16 x17 x18 x19 : Addr} {od0 an0 od1 an1 od2 an2 od3 an3 od4 an4 od5 an5 od6 an6 od7 an7 od8 an8 od9 an9 od10 an10 od11 an11 od12 an12 od13 an13 od14 an14 od15 an15 od16 an16 od17 an17 od18 an18 od19 an19 : Option Addr} {sl0 sl1 sl2 sl3 sl4 sl5 sl6 sl7 sl8 sl9 sl10 sl11 sl12 sl13 sl14 sl15 sl16 sl17 sl18 sl19 : Array (Option Value)} {oc0 kv0 dc0 pm0 cd0 ct0 oc1 kv1 dc1 pm1 cd1 ct1 oc2 kv2 dc2 pm2 cd2 ct2 oc3 kv3 dc3 pm3 cd3 ct3 oc4 kv4 dc4 pm4 cd4 ct4 oc5 kv5 dc5 pm5 cd5 ct5 oc6 kv6 dc6 pm6 cd6 ct6 oc7 kv7 dc7 pm7 cd7 ct7 oc8 kv8 dc8 pm8 cd8 ct8 oc9 kv9 dc9 pm9 cd9 ct9 oc10 kv10 dc10 pm10 cd10 ct10 oc11 kv11 dc11 pm11 cd11 ct11 oc12 kv12 dc12 pm12 cd12 ct12 oc13 kv13 dc13 pm13 cd13 ct13 oc14 kv14 dc14 pm14 cd14 ct14 oc15 kv15 dc15 pm15 cd15 ct15 oc16 kv16 dc16 pm16 cd16 ct16 oc17 kv17 dc17 pm17 cd17 ct17 oc18 kv18 dc18 pm18 cd18 ct18 oc19 kv19 dc19 pm19 cd19 ct19 : Value} {tk0 : Tok} (X : K.In h) (G : h.Ns mainGlobals mg) (hfa : mg "law" = some (.ref fa))
    (a0 : PySem.W.nsIn K mainGlobals "all_signs" = some (some (.ref x0))) (l0 : K.lookup x0 = some ⟨oc0, od0, .func (PySem.W.fnOf "all_signs" "all_signs" (defArgs s_all_signs) (defBody s_all_signs) (defScope s_all_signs) .none kv0 dc0 pm0 an0 cd0 ct0), sl0⟩) (u0 : PySem.W.codeIn K cd0 "all_signs" = true) (q0 : PySem.W.keepIn K (.ref x0) = true)
    (a1 : PySem.W.nsIn K mainGlobals "eighths_between" = some (some (.ref x1))) (l1 : K.lookup x1 = some ⟨oc1, od1, .func (PySem.W.fnOf "eighths_between" "eighths_between" (defArgs s_eighths_between) (defBody s_eighths_between) (defScope s_eighths_between) .none kv1 dc1 pm1 an1 cd1 ct1), sl1⟩) (u1 : PySem.W.codeIn K cd1 "eighths_between" = true) (q1 : PySem.W.keepIn K (.ref x1) = true)
    (a2 : PySem.W.nsIn K mainGlobals "moves_between" = some (some (.ref x2))) (l2 : K.lookup x2 = some ⟨oc2, od2, .func (PySem.W.fnOf "moves_between" "moves_between" (defArgs s_moves_between) (defBody s_moves_between) (defScope s_moves_between) .none kv2 dc2 pm2 an2 cd2 ct2), sl2⟩) (u2 : PySem.W.codeIn K cd2 "moves_between" = true) (q2 : PySem.W.keepIn K (.ref x2) = true)
    (a3 : PySem.W.nsIn K mainGlobals "signs_of" = some (some (.ref x3))) (l3 : K.lookup x3 = some ⟨oc3, od3, .func (PySem.W.fnOf "signs_of" "signs_of" (defArgs s_signs_of) (defBody s_signs_of) (defScope s_signs_of) .none kv3 dc3 pm3 an3 cd3 ct3), sl3⟩) (u3 : PySem.W.codeIn K cd3 "signs_of" = true) (q3 : PySem.W.keepIn K (.ref x3) = true)
    (a4 : PySem.W.nsIn K mainGlobals "moves_of_word" = some (some (.ref x4))) (l4 : K.lookup x4 = some ⟨oc4, od4, .func (PySem.W.fnOf "moves_of_word" "moves_of_word" (defArgs s_moves_of_word) (defBody s_moves_of_word) (defScope s_moves_of_word) .none kv4 dc4 pm4 an4 cd4 ct4), sl4⟩) (u4 : PySem.W.codeIn K cd4 "moves_of_word" = true) (q4 : PySem.W.keepIn K (.ref x4) = true)
    (a5 : PySem.W.nsIn K mainGlobals "places_in_both" = some (some (.ref x5))) (l5 : K.lookup x5 = some ⟨oc5, od5, .func (PySem.W.fnOf "places_in_both" "places_in_both" (defArgs s_places_in_both) (defBody s_places_in_both) (defScope s_places_in_both) .none kv5 dc5 pm5 an5 cd5 ct5), sl5⟩) (u5 : PySem.W.codeIn K cd5 "places_in_both" = true) (q5 : PySem.W.keepIn K (.ref x5) = true)
    (a6 : PySem.W.nsIn K mainGlobals "misread" = some (some (.ref x6))) (l6 : K.lookup x6 = some ⟨oc6, od6, .func (PySem.W.fnOf "misread" "misread" (defArgs s_misread) (defBody s_misread) (defScope s_misread) .none kv6 dc6 pm6 an6 cd6 ct6), sl6⟩) (u6 : PySem.W.codeIn K cd6 "misread" = true) (q6 : PySem.W.keepIn K (.ref x6) = true)
    (a7 : PySem.W.nsIn K mainGlobals "turned_sign" = some (some (.ref x7))) (l7 : K.lookup x7 = some ⟨oc7, od7, .func (PySem.W.fnOf "turned_sign" "turned_sign" (defArgs s_turned_sign) (defBody s_turned_sign) (defScope s_turned_sign) .none kv7 dc7 pm7 an7 cd7 ct7), sl7⟩) (u7 : PySem.W.codeIn K cd7 "turned_sign" = true) (q7 : PySem.W.keepIn K (.ref x7) = true)
    (a8 : PySem.W.nsIn K mainGlobals "seen_from_behind" = some (some (.ref x8))) (l8 : K.lookup x8 = some ⟨oc8, od8, .func (PySem.W.fnOf "seen_from_behind" "seen_from_behind" (defArgs s_seen_from_behind) (defBody s_seen_from_behind) (defScope s_seen_from_behind) .none kv8 dc8 pm8 an8 cd8 ct8), sl8⟩) (u8 : PySem.W.codeIn K cd8 "seen_from_behind" = true) (q8 : PySem.W.keepIn K (.ref x8) = true)
    (a9 : PySem.W.nsIn K mainGlobals "letters_alike_behind" = some (some (.ref x9))) (l9 : K.lookup x9 = some ⟨oc9, od9, .func (PySem.W.fnOf "letters_alike_behind" "letters_alike_behind" (defArgs s_letters_alike_behind) (defBody s_letters_alike_behind) (defScope s_letters_alike_behind) .none kv9 dc9 pm9 an9 cd9 ct9), sl9⟩) (u9 : PySem.W.codeIn K cd9 "letters_alike_behind" = true) (q9 : PySem.W.keepIn K (.ref x9) = true)
    (a10 : PySem.W.nsIn K mainGlobals "_law_draws" = some (some (.ref x10))) (l10 : K.lookup x10 = some ⟨oc10, od10, .func (PySem.W.fnOf "_law_draws" "_law_draws" (defArgs s__law_draws) (defBody s__law_draws) (defScope s__law_draws) .none kv10 dc10 pm10 an10 cd10 ct10), sl10⟩) (u10 : PySem.W.codeIn K cd10 "_law_draws" = true) (q10 : PySem.W.keepIn K (.ref x10) = true)
    (a11 : PySem.W.nsIn K mainGlobals "_law_take" = some (some (.ref x11))) (l11 : K.lookup x11 = some ⟨oc11, od11, .func (PySem.W.fnOf "_law_take" "_law_take" (defArgs s__law_take) (defBody s__law_take) (defScope s__law_take) .none kv11 dc11 pm11 an11 cd11 ct11), sl11⟩) (u11 : PySem.W.codeIn K cd11 "_law_take" = true) (q11 : PySem.W.keepIn K (.ref x11) = true)
    (a12 : PySem.W.nsIn K mainGlobals "_law_same" = some (some (.ref x12))) (l12 : K.lookup x12 = some ⟨oc12, od12, .func (PySem.W.fnOf "_law_same" "_law_same" (defArgs s__law_same) (defBody s__law_same) (defScope s__law_same) .none kv12 dc12 pm12 an12 cd12 ct12), sl12⟩) (u12 : PySem.W.codeIn K cd12 "_law_same" = true) (q12 : PySem.W.keepIn K (.ref x12) = true)
    (a13 : PySem.W.nsIn K mainGlobals "_law_size" = some (some (.ref x13))) (l13 : K.lookup x13 = some ⟨oc13, od13, .func (PySem.W.fnOf "_law_size" "_law_size" (defArgs s__law_size) (defBody s__law_size) (defScope s__law_size) .none kv13 dc13 pm13 an13 cd13 ct13), sl13⟩) (u13 : PySem.W.codeIn K cd13 "_law_size" = true) (q13 : PySem.W.keepIn K (.ref x13) = true)
    (a14 : PySem.W.nsIn K mainGlobals "_law_eighths" = some (some (.ref x14))) (l14 : K.lookup x14 = some ⟨oc14, od14, .func (PySem.W.fnOf "_law_eighths" "_law_eighths" (defArgs s__law_eighths) (defBody s__law_eighths) (defScope s__law_eighths) .none kv14 dc14 pm14 an14 cd14 ct14), sl14⟩) (u14 : PySem.W.codeIn K cd14 "_law_eighths" = true) (q14 : PySem.W.keepIn K (.ref x14) = true)
    (a15 : PySem.W.nsIn K mainGlobals "_law_moves" = some (some (.ref x15))) (l15 : K.lookup x15 = some ⟨oc15, od15, .func (PySem.W.fnOf "_law_moves" "_law_moves" (defArgs s__law_moves) (defBody s__law_moves) (defScope s__law_moves) .none kv15 dc15 pm15 an15 cd15 ct15), sl15⟩) (u15 : PySem.W.codeIn K cd15 "_law_moves" = true) (q15 : PySem.W.keepIn K (.ref x15) = true)
    (a16 : PySem.W.nsIn K mainGlobals "_law_code" = some (some (.ref x16))) (l16 : K.lookup x16 = some ⟨oc16, od16, .func (PySem.W.fnOf "_law_code" "_law_code" (defArgs s__law_code) (defBody s__law_code) (defScope s__law_code) .none kv16 dc16 pm16 an16 cd16 ct16), sl16⟩) (u16 : PySem.W.codeIn K cd16 "_law_code" = true) (q16 : PySem.W.keepIn K (.ref x16) = true)
    (a17 : PySem.W.nsIn K mainGlobals "_law_signs_right" = some (some (.ref x17))) (l17 : K.lookup x17 = some ⟨oc17, od17, .func (PySem.W.fnOf "_law_signs_right" "_law_signs_right" (defArgs s__law_signs_right) (defBody s__law_signs_right) (defScope s__law_signs_right) .none kv17 dc17 pm17 an17 cd17 ct17), sl17⟩) (u17 : PySem.W.codeIn K cd17 "_law_signs_right" = true) (q17 : PySem.W.keepIn K (.ref x17) = true)
    (a18 : PySem.W.nsIn K mainGlobals "_law_code_right" = some (some (.ref x18))) (l18 : K.lookup x18 = some ⟨oc18, od18, .func (PySem.W.fnOf "_law_code_right" "_law_code_right" (defArgs s__law_code_right) (defBody s__law_code_right) (defScope s__law_code_right) .none kv18 dc18 pm18 an18 cd18 ct18), sl18⟩) (u18 : PySem.W.codeIn K cd18 "_law_code_right" = true) (q18 : PySem.W.keepIn K (.ref x18) = true)
    (a19 : PySem.W.nsIn K mainGlobals "law" = some (some (.ref x19))) (l19 : K.lookup x19 = some ⟨oc19, od19, .func (PySem.W.fnOf "law" "law" (defArgs s_law) (defBody s_law) (defScope s_law) .none kv19 dc19 pm19 an19 cd19 ct19), sl19⟩) (u19 : PySem.W.codeIn K cd19 "law" = true) (q19 : PySem.W.keepIn K (.ref x19) = true)
    (z0 : PySem.W.nsIn K mainGlobals "abs" = some none)
    (z1 : PySem.W.nsIn K mainGlobals "any" = some none)
    (z2 : PySem.W.nsIn K mainGlobals "bool" = some none)
    (z3 : PySem.W.nsIn K mainGlobals "dict" = some none)
    (z4 : PySem.W.nsIn K mainGlobals "int" = some none)
    (z5 : PySem.W.nsIn K mainGlobals "isinstance" = some none)
    (z6 : PySem.W.nsIn K mainGlobals "len" = some none)
    (z7 : PySem.W.nsIn K mainGlobals "list" = some none)
    (z8 : PySem.W.nsIn K mainGlobals "min" = some none)
    (z9 : PySem.W.nsIn K mainGlobals "range" = some none)
    (z10 : PySem.W.nsIn K mainGlobals "set" = some none)
    (z11 : PySem.W.nsIn K mainGlobals "sorted" = some none)
    (z12 : PySem.W.nsIn K mainGlobals "str" = some none)
    (z13 : PySem.W.nsIn K mainGlobals "sum" = some none)
    (z14 : PySem.W.nsIn K mainGlobals "tuple" = some none)
    (y0 : PySem.W.nsIn K mainGlobals "PLACES" = some (some (.int 8 tk0)))
    : ∃ fd : FuncData, (∀ (s : Shared) (v : Value), BindsTo s fd ⟨[v], []⟩ [("script", v)]) ∧ ∀ base : Heap, K.In base → base.Ns mainGlobals mg → FnOk l.prog w K mg base CX0 9 fa fd ["script"] (spF K [false] f_law) := by
  have e := hfa.symm.trans (PySem.W.mg_of X G a19)
  cases e
  have F0 := fun_mk (st := s_all_signs) l0 u0 q0
  have B0 := F0.binds (ps := []) fun _ _ _ _ _ _ us hl => match us, hl with | [], _ => rfl
  have F1 := fun_mk (st := s_eighths_between) l1 u1 q1
  have B1 := F1.binds (ps := ["one", "other"]) fun _ _ _ _ _ _ us hl => match us, hl with | [_, _], _ => rfl
  have F2 := fun_mk (st := s_moves_between) l2 u2 q2
  have B2 := F2.binds (ps := ["one", "other"]) fun _ _ _ _ _ _ us hl => match us, hl with | [_, _], _ => rfl
  have F3 := fun_mk (st := s_signs_of) l3 u3 q3
  have B3 := F3.binds (ps := ["code"]) fun _ _ _ _ _ _ us hl => match us, hl with | [_], _ => rfl
  have F4 := fun_mk (st := s_moves_of_word) l4 u4 q4
  have B4 := F4.binds (ps := ["code", "word"]) fun _ _ _ _ _ _ us hl => match us, hl with | [_, _], _ => rfl
  have F5 := fun_mk (st := s_places_in_both) l5 u5 q5
  have B5 := F5.binds (ps := ["one", "other"]) fun _ _ _ _ _ _ us hl => match us, hl with | [_, _], _ => rfl
  have F6 := fun_mk (st := s_misread) l6 u6 q6
  have B6 := F6.binds (ps := ["one", "code"]) fun _ _ _ _ _ _ us hl => match us, hl with | [_, _], _ => rfl
  have F7 := fun_mk (st := s_turned_sign) l7 u7 q7
  have B7 := F7.binds (ps := ["sign", "eighths"]) fun _ _ _ _ _ _ us hl => match us, hl with | [_, _], _ => rfl
  have F8 := fun_mk (st := s_seen_from_behind) l8 u8 q8
  have B8 := F8.binds (ps := ["sign"]) fun _ _ _ _ _ _ us hl => match us, hl with | [_], _ => rfl
  have F9 := fun_mk (st := s_letters_alike_behind) l9 u9 q9
  have B9 := F9.binds (ps := ["code"]) fun _ _ _ _ _ _ us hl => match us, hl with | [_], _ => rfl
  have F10 := fun_mk (st := s__law_draws) l10 u10 q10
  have B10 := F10.binds (ps := ["script", "many"]) fun _ _ _ _ _ _ us hl => match us, hl with | [_, _], _ => rfl
  have F11 := fun_mk (st := s__law_take) l11 u11 q11
  have B11 := F11.binds (ps := ["draws", "many"]) fun _ _ _ _ _ _ us hl => match us, hl with | [_, _], _ => rfl
  have F12 := fun_mk (st := s__law_same) l12 u12 q12
  have B12 := F12.binds (ps := ["actual", "due"]) fun _ _ _ _ _ _ us hl => match us, hl with | [_, _], _ => rfl
  have F13 := fun_mk (st := s__law_size) l13 u13 q13
  have B13 := F13.binds (ps := ["draws", "script"]) fun _ _ _ _ _ _ us hl => match us, hl with | [_, _], _ => rfl
  have F14 := fun_mk (st := s__law_eighths) l14 u14 q14
  have B14 := F14.binds (ps := ["one", "other"]) fun _ _ _ _ _ _ us hl => match us, hl with | [_, _], _ => rfl
  have F15 := fun_mk (st := s__law_moves) l15 u15 q15
  have B15 := F15.binds (ps := ["one", "other"]) fun _ _ _ _ _ _ us hl => match us, hl with | [_, _], _ => rfl
  have F16 := fun_mk (st := s__law_code) l16 u16 q16
  have B16 := F16.binds (ps := ["draws", "signs", "many"]) fun _ _ _ _ _ _ us hl => match us, hl with | [_, _, _], _ => rfl
  have F17 := fun_mk (st := s__law_signs_right) l17 u17 q17
  have B17 := F17.binds (ps := ["draws", "script", "signs"]) fun _ _ _ _ _ _ us hl => match us, hl with | [_, _, _], _ => rfl
  have F18 := fun_mk (st := s__law_code_right) l18 u18 q18
  have B18 := F18.binds (ps := ["draws", "signs"]) fun _ _ _ _ _ _ us hl => match us, hl with | [_, _], _ => rfl
  have F19 := fun_mk (st := s_law) l19 u19 q19
  have B19 := F19.binds (ps := ["script"]) fun _ _ _ _ _ _ us hl => match us, hl with | [_], _ => rfl
  have T : Tx K mg := ⟨⟨_, _, PySem.W.mg_of X G a0, F0, B0⟩, ⟨_, _, PySem.W.mg_of X G a1, F1, B1⟩, ⟨_, _, PySem.W.mg_of X G a2, F2, B2⟩, ⟨_, _, PySem.W.mg_of X G a3, F3, B3⟩, ⟨_, _, PySem.W.mg_of X G a4, F4, B4⟩, ⟨_, _, PySem.W.mg_of X G a5, F5, B5⟩, ⟨_, _, PySem.W.mg_of X G a6, F6, B6⟩, ⟨_, _, PySem.W.mg_of X G a7, F7, B7⟩, ⟨_, _, PySem.W.mg_of X G a8, F8, B8⟩, ⟨_, _, PySem.W.mg_of X G a9, F9, B9⟩, ⟨_, _, PySem.W.mg_of X G a10, F10, B10⟩, ⟨_, _, PySem.W.mg_of X G a11, F11, B11⟩, ⟨_, _, PySem.W.mg_of X G a12, F12, B12⟩, ⟨_, _, PySem.W.mg_of X G a13, F13, B13⟩, ⟨_, _, PySem.W.mg_of X G a14, F14, B14⟩, ⟨_, _, PySem.W.mg_of X G a15, F15, B15⟩, ⟨_, _, PySem.W.mg_of X G a16, F16, B16⟩, ⟨_, _, PySem.W.mg_of X G a17, F17, B17⟩, ⟨_, _, PySem.W.mg_of X G a18, F18, B18⟩, ⟨_, _, PySem.W.mg_of X G a19, F19, B19⟩, PySem.W.mg_none_of X G z0, PySem.W.mg_none_of X G z1, PySem.W.mg_none_of X G z2, PySem.W.mg_none_of X G z3, PySem.W.mg_none_of X G z4, PySem.W.mg_none_of X G z5, PySem.W.mg_none_of X G z6, PySem.W.mg_none_of X G z7, PySem.W.mg_none_of X G z8, PySem.W.mg_none_of X G z9, PySem.W.mg_none_of X G z10, PySem.W.mg_none_of X G z11, PySem.W.mg_none_of X G z12, PySem.W.mg_none_of X G z13, PySem.W.mg_none_of X G z14, ⟨_, PySem.W.mg_of X G y0⟩⟩
  refine ⟨PySem.W.fnOf "law" "law" (defArgs s_law) (defBody s_law) (defScope s_law) .none kv19 dc19 pm19 an19 cd19 ct19, fun s v => .of_eq rfl, fun base _ _ => ?_⟩
  obtain ⟨f, fd, h1, h2, h3, h4⟩ := ok_all (Pr := l.prog) (w := w) (base := base) T
  have e2 := h1.symm.trans (PySem.W.mg_of X G a19)
  cases e2
  have e3 := fun_fd h2 l19
  rw [← e3]
  exact h4
end P69
open PySem PySem.W PyProof.Rows
set_option maxHeartbeats 0 in
theorem PySem.Challenge.cw_sentintime_k69_signs_of_two_arms_holds : PySem.Challenge.rw_sentintime_k69_signs_of_two_arms.Holds := by
  w_on; o_law; k_head; (case hw => w_witness2)
  k_fill
  refine L2.walk_of (l := PySem.Challenge.rw_sentintime_k69_signs_of_two_arms) (n := 63) (k := 9) (x := "script") (CX := fun _ => L2.CX0) (sp := fun w => VL.spF _ [false] P69.f_law) rfl (by decide) rfl ⟨rfl, by decide, by decide⟩ (fun w h Y => PySem.W.kIn_of Y) ?F (fun _ _ a ns hl on hS => VL.arg_ok on hS (P69.law_ok ns (by omega))) (fun _ _ _ _ _ h => h)
  case F =>
    intro w mg fa h KX G hmg
    refine' P69.all_mk KX G hmg ?a0 ?l0 ?u0 ?q0 ?a1 ?l1 ?u1 ?q1 ?a2 ?l2 ?u2 ?q2 ?a3 ?l3 ?u3 ?q3 ?a4 ?l4 ?u4 ?q4 ?a5 ?l5 ?u5 ?q5 ?a6 ?l6 ?u6 ?q6 ?a7 ?l7 ?u7 ?q7 ?a8 ?l8 ?u8 ?q8 ?a9 ?l9 ?u9 ?q9 ?a10 ?l10 ?u10 ?q10 ?a11 ?l11 ?u11 ?q11 ?a12 ?l12 ?u12 ?q12 ?a13 ?l13 ?u13 ?q13 ?a14 ?l14 ?u14 ?q14 ?a15 ?l15 ?u15 ?q15 ?a16 ?l16 ?u16 ?q16 ?a17 ?l17 ?u17 ?q17 ?a18 ?l18 ?u18 ?q18 ?a19 ?l19 ?u19 ?q19 ?z0 ?z1 ?z2 ?z3 ?z4 ?z5 ?z6 ?z7 ?z8 ?z9 ?z10 ?z11 ?z12 ?z13 ?z14 ?y0
    (case a0 => k_is); (case l0 => k_is); (case u0 => k_is); (case q0 => k_is); (case a1 => k_is); (case l1 => k_is); (case u1 => k_is); (case q1 => k_is); (case a2 => k_is); (case l2 => k_is); (case u2 => k_is); (case q2 => k_is); (case a3 => k_is); (case l3 => k_is); (case u3 => k_is); (case q3 => k_is); (case a4 => k_is); (case l4 => k_is); (case u4 => k_is); (case q4 => k_is); (case a5 => k_is); (case l5 => k_is); (case u5 => k_is); (case q5 => k_is); (case a6 => k_is); (case l6 => k_is); (case u6 => k_is); (case q6 => k_is); (case a7 => k_is); (case l7 => k_is); (case u7 => k_is); (case q7 => k_is); (case a8 => k_is); (case l8 => k_is); (case u8 => k_is); (case q8 => k_is); (case a9 => k_is); (case l9 => k_is); (case u9 => k_is); (case q9 => k_is); (case a10 => k_is); (case l10 => k_is); (case u10 => k_is); (case q10 => k_is); (case a11 => k_is); (case l11 => k_is); (case u11 => k_is); (case q11 => k_is); (case a12 => k_is); (case l12 => k_is); (case u12 => k_is); (case q12 => k_is); (case a13 => k_is); (case l13 => k_is); (case u13 => k_is); (case q13 => k_is); (case a14 => k_is); (case l14 => k_is); (case u14 => k_is); (case q14 => k_is); (case a15 => k_is); (case l15 => k_is); (case u15 => k_is); (case q15 => k_is); (case a16 => k_is); (case l16 => k_is); (case u16 => k_is); (case q16 => k_is); (case a17 => k_is); (case l17 => k_is); (case u17 => k_is); (case q17 => k_is); (case a18 => k_is); (case l18 => k_is); (case u18 => k_is); (case q18 => k_is); (case a19 => k_is); (case l19 => k_is); (case u19 => k_is); (case q19 => k_is); (case z0 => k_is); (case z1 => k_is); (case z2 => k_is); (case z3 => k_is); (case z4 => k_is); (case z5 => k_is); (case z6 => k_is); (case z7 => k_is); (case z8 => k_is); (case z9 => k_is); (case z10 => k_is); (case z11 => k_is); (case z12 => k_is); (case z13 => k_is); (case z14 => k_is); (case y0 => k_is)

