import PyProof.Rows.All
import Wide.All
import OpenK.AllK
import Wide.FinOn
import HandS.ForMost
import HandS.ForExc
import HandS.Defaults
import HandS.CallSlots
import HandS.Gcd
import HandS.Wide
import HandS.WideBits
import HandS.IsInst
import HandS.ExcIs
import HandS.TryMany
import HandS.TryOnly
import HandS.Head0
import HandS.Head1
import HandS.Head2
import HandS.HeadEnd
import HandS.EndBits
import HandS.HeadHook1
import HandS.HeadHook2
import HandS.Head3
import PySem.Challenge.RW_rowtower_k00_fractions_in_lowest_form
set_option Elab.async false
set_option linter.all false
set_option maxRecDepth 100000
set_option maxHeartbeats 0
/-! A layer over the hand layer: values are data (tuples without addresses), only lists and objects stand in a heap. -/
namespace Dv
open PySem PySem.Spec PyProof.Rows L2

/-! ### data -/
inductive D where
  | non | bl (b : Bool) | int (i : Int) | str (x : Str) | ty (n : String) | ref (a : Addr) | tup (ds : List D) | fz (ds : List D)

/-- a list that never changes: locked, or of the written part -/
def SqF (K : PySem.W.Frag) (H : Hp) (a : Addr) (xs : List V) : Prop := (∃ o, H a = some (.frz o (.lst xs))) ∨
  ∃ (o : Obj) (its : Array Value) (n : Nat), K.lookup a = some o ∧ o.cls = .type "list" ∧ o.dict = none ∧ o.data = .seq its n ∧ its.size ≤ sizeLine ∧ Vals xs its.toList
theorem SqF.sq {K : PySem.W.Frag} {H : Hp} {a : Addr} {xs : List V} (h : SqF K H a xs) : SqL K H a xs := by
  rcases h with ⟨o, h⟩ | h
  · exact .inl (.inr ⟨o, h⟩)
  · exact .inr h
mutual
inductive Dn (K : PySem.W.Frag) (H : Hp) : V → D → Prop
  | non : Dn K H .non .non
  | bl (b : Bool) : Dn K H (.bl b) (.bl b)
  | int (i : Int) : Dn K H (.int i) (.int i)
  | str (x : Str) : Dn K H (.str x) (.str x)
  | ty (n : String) : Dn K H (.ty n) (.ty n)
  | ref (a : Addr) : Dn K H (.ref a) (.ref a)
  | tup {a : Addr} {xs : List V} {ds : List D} : SqT K H a xs → DnA K H xs ds → Dn K H (.ref a) (.tup ds)
  /-- a list that never changes -/
  | fz {a : Addr} {xs : List V} {ds : List D} : SqF K H a xs → DnA K H xs ds → Dn K H (.ref a) (.fz ds)
inductive DnA (K : PySem.W.Frag) (H : Hp) : List V → List D → Prop
  | nil : DnA K H [] []
  | cons {v : V} {vs : List V} {d : D} {ds : List D} : Dn K H v d → DnA K H vs ds → DnA K H (v :: vs) (d :: ds)
end

/-- tuples and locked things stay -/
structure TK (H H' : Hp) : Prop where
  t : ∀ a xs, H a = some (.tup xs) → H' a = some (.tup xs)
  f : ∀ a o u, H a = some (.frz o u) → H' a = some (.frz o u)
theorem TK.refl (H : Hp) : TK H H := ⟨fun _ _ h => h, fun _ _ _ h => h⟩
theorem TK.trans {H H1 H2 : Hp} (a : TK H H1) (b : TK H1 H2) : TK H H2 := ⟨fun c xs h => b.t c xs (a.t c xs h), fun c o u h => b.f c o u (a.f c o u h)⟩
theorem TK.sqT {K : PySem.W.Frag} {H H' : Hp} {a : Addr} {xs : List V} (t : TK H H') (h : SqT K H a xs) : SqT K H' a xs := by
  rcases h with (h | ⟨o, h⟩) | h
  · exact .inl (.inl (t.t _ _ h))
  · exact .inl (.inr ⟨o, t.f _ _ _ h⟩)
  · exact .inr h
theorem TK.sqF {K : PySem.W.Frag} {H H' : Hp} {a : Addr} {xs : List V} (t : TK H H') (h : SqF K H a xs) : SqF K H' a xs := by
  rcases h with ⟨o, h⟩ | h
  · exact .inl ⟨o, t.f _ _ _ h⟩
  · exact .inr h
theorem TK.of_same {H H' : Hp} (s : Same H H') : TK H H' := ⟨fun a xs h => s _ _ h, fun a o u h => s _ _ h⟩
theorem same_upd {H : Hp} {p : Addr} {o : HO} (h : H p = none) : Same H (upd H p o) := fun b x e => by
  rw [upd_ne (ne_of_none e h)]
  exact e
theorem TK.upd_new {H : Hp} {p : Addr} {o : HO} (h : H p = none) : TK H (upd H p o) := .of_same (same_upd h)
/-- a tracked object that is no tuple changes -/
theorem TK.upd_mut {H : Hp} {p : Addr} {o u : HO} (h : H p = some u) (hu : ∀ xs, u ≠ .tup xs) (hf : ∀ ob w, u ≠ .frz ob w) : TK H (upd H p o) := by
  refine ⟨fun a xs q => ?_, fun a ob w q => ?_⟩
  · rw [upd_ne (by rintro rfl; rw [h] at q; exact hu xs (Option.some.inj q))]
    exact q
  · rw [upd_ne (by rintro rfl; rw [h] at q; exact hf _ _ (Option.some.inj q))]
    exact q
mutual
theorem Dn.mono {K : PySem.W.Frag} {H H' : Hp} (t : TK H H') : ∀ {v : V} {d : D}, Dn K H v d → Dn K H' v d
  | _, _, .non => .non
  | _, _, .bl b => .bl b
  | _, _, .int i => .int i
  | _, _, .str x => .str x
  | _, _, .ty n => .ty n
  | _, _, .ref a => .ref a
  | _, _, .tup h1 h2 => .tup (t.sqT h1) (DnA.mono t h2)
  | _, _, .fz h1 h2 => .fz (t.sqF h1) (DnA.mono t h2)
theorem DnA.mono {K : PySem.W.Frag} {H H' : Hp} (t : TK H H') : ∀ {vs : List V} {ds : List D}, DnA K H vs ds → DnA K H' vs ds
  | _, _, .nil => .nil
  | _, _, .cons h1 h2 => .cons (Dn.mono t h1) (DnA.mono t h2)
end
theorem DnA.length {K : PySem.W.Frag} {H : Hp} : ∀ {vs : List V} {ds : List D}, DnA K H vs ds → vs.length = ds.length
  | _, _, .nil => rfl
  | _, _, .cons _ t => by rw [List.length_cons, List.length_cons, DnA.length t]
theorem DnA.get {K : PySem.W.Frag} {H : Hp} : ∀ {vs : List V} {ds : List D} {i : Nat} {d : D}, DnA K H vs ds → ds[i]? = some d → ∃ v, vs[i]? = some v ∧ Dn K H v d
  | _, _, i, d, .nil, h => by simp at h
  | _, _, 0, d, .cons h1 _, h => by
    simp at h
    subst h
    exact ⟨_, rfl, h1⟩
  | _, _, i + 1, d, .cons _ h2, h => by
    obtain ⟨v, e, q⟩ := DnA.get (i := i) (d := d) h2 (by simpa using h)
    exact ⟨v, by simpa using e, q⟩
theorem DnA.append {K : PySem.W.Frag} {H : Hp} : ∀ {vs ws : List V} {ds es : List D}, DnA K H vs ds → DnA K H ws es → DnA K H (vs ++ ws) (ds ++ es)
  | _, _, _, _, .nil, h => h
  | _, _, _, _, .cons a t, h => .cons a (DnA.append t h)
theorem DnA.set {K : PySem.W.Frag} {H : Hp} {v : V} {d : D} (r : Dn K H v d) : ∀ {vs : List V} {ds : List D} (i : Nat), DnA K H vs ds → DnA K H (vs.set i v) (ds.set i d)
  | _, _, _, .nil => .nil
  | _, _, 0, .cons _ t => .cons r t
  | _, _, i + 1, .cons q t => .cons q (DnA.set r i t)
theorem DnA.drop {K : PySem.W.Frag} {H : Hp} : ∀ {vs : List V} {ds : List D} (n : Nat), DnA K H vs ds → DnA K H (vs.drop n) (ds.drop n)
  | _, _, 0, r => r
  | _, _, _ + 1, .nil => .nil
  | _, _, n + 1, .cons _ t => DnA.drop n t
theorem DnA.take {K : PySem.W.Frag} {H : Hp} : ∀ {vs : List V} {ds : List D} (n : Nat), DnA K H vs ds → DnA K H (vs.take n) (ds.take n)
  | _, _, 0, r => .nil
  | _, _, _ + 1, .nil => .nil
  | _, _, n + 1, .cons q t => .cons q (DnA.take n t)
theorem DnA.reverse {K : PySem.W.Frag} {H : Hp} : ∀ {vs : List V} {ds : List D}, DnA K H vs ds → DnA K H vs.reverse ds.reverse
  | _, _, .nil => .nil
  | _, _, .cons q t => by
    rw [List.reverse_cons, List.reverse_cons]
    exact DnA.append (DnA.reverse t) (.cons q .nil)
theorem DnA.ints {K : PySem.W.Frag} {H : Hp} : ∀ {vs : List V} {ns : List Int}, DnA K H vs (ns.map D.int) → vs = ns.map V.int
  | _, [], .nil => rfl
  | _, n :: ns, .cons (.int _) t => by rw [DnA.ints t]; rfl
theorem DnA.of_ints {K : PySem.W.Frag} {H : Hp} : ∀ (ns : List Int), DnA K H (ns.map V.int) (ns.map D.int)
  | [] => .nil
  | n :: ns => .cons (.int n) (DnA.of_ints ns)

/-! ### the heap of what changes -/
inductive DO where
  /-- a list that may change -/
  | lst (ds : List D)
abbrev HD := Addr → Option DO
def hset (h : HD) (a : Addr) (o : DO) : HD := fun b => if b = a then some o else h b
theorem hset_same {h : HD} {a : Addr} {o : DO} : hset h a o a = some o := by unfold hset; rw [if_pos rfl]
theorem hset_ne {h : HD} {a b : Addr} {o : DO} (e : b ≠ a) : hset h a o b = h b := by unfold hset; rw [if_neg e]
def OR (K : PySem.W.Frag) (H : Hp) (a : Addr) : DO → Prop
  | .lst ds => ∃ xs, H a = some (.lst xs) ∧ DnA K H xs ds
def HR (K : PySem.W.Frag) (H : Hp) (h : HD) : Prop := ∀ a o, h a = some o → OR K H a o
/-- known before is known now -/
def Ext (h h' : HD) : Prop := ∀ a o, h a = some o → h' a = some o
theorem Ext.refl (h : HD) : Ext h h := fun _ _ e => e
theorem Ext.trans {h h1 h2 : HD} (a : Ext h h1) (b : Ext h1 h2) : Ext h h2 := fun x o e => b x o (a x o e)
theorem Ext.new {h : HD} {p : Addr} {o : DO} (e : h p = none) : Ext h (hset h p o) := fun a u q => by
  rw [hset_ne (by rintro rfl; rw [e] at q; cases q)]
  exact q
/-- an object that h does not know may change -/
theorem Ext.mut {h h1 : HD} {p : Addr} {o : DO} (x : Ext h h1) (e : h p = none) : Ext h (hset h1 p o) := fun a u q => by
  rw [hset_ne (by rintro rfl; rw [e] at q; cases q)]
  exact x a u q
theorem HR.ext {K : PySem.W.Frag} {H : Hp} {h h' : HD} (x : Ext h h') (r : HR K H h') : HR K H h := fun a o e => r a o (x a o e)
theorem HR.free {K : PySem.W.Frag} {H : Hp} {h : HD} {p : Addr} (r : HR K H h) (n : H p = none) : h p = none := by
  cases e : h p with
  | none => rfl
  | some o =>
    have q := r p o e
    cases o with
    | lst ds =>
      obtain ⟨xs, q1, _⟩ := q
      rw [n] at q1
      cases q1
theorem OR.upd_new {K : PySem.W.Frag} {H : Hp} {p a : Addr} {o : HO} {u : DO} (n : H p = none) (h : OR K H a u) : OR K (upd H p o) a u := by
  cases u with
  | lst ds =>
    obtain ⟨xs, e, q⟩ := h
    exact ⟨xs, same_upd n _ _ e, q.mono (.upd_new n)⟩
theorem HR.upd_new {K : PySem.W.Frag} {H : Hp} {h : HD} {p : Addr} {o : HO} (r : HR K H h) (n : H p = none) : HR K (upd H p o) h := fun a u e => (r a u e).upd_new n
/-- a new list -/
theorem HR.new_lst {K : PySem.W.Frag} {H : Hp} {h : HD} {p : Addr} {xs : List V} {ds : List D} (r : HR K H h) (n : H p = none) (q : DnA K H xs ds) : HR K (upd H p (.lst xs)) (hset h p (.lst ds)) := fun a u e => by
  by_cases z : a = p
  · subst z
    rw [hset_same] at e
    cases e
    exact ⟨xs, upd_same, q.mono (.upd_new n)⟩
  · rw [hset_ne z] at e
    exact (r a u e).upd_new n
/-- a list is written -/
theorem HR.set_lst {K : PySem.W.Frag} {H : Hp} {h : HD} {p : Addr} {xs ys : List V} {es : List D} (r : HR K H h) (hp : H p = some (.lst xs)) (q : DnA K H ys es) : HR K (upd H p (.lst ys)) (hset h p (.lst es)) := fun a u e => by
  have tk : TK H (upd H p (.lst ys)) := .upd_mut hp (fun _ z => nomatch z) (fun _ _ z => nomatch z)
  by_cases z : a = p
  · subst z
    rw [hset_same] at e
    cases e
    exact ⟨ys, upd_same, q.mono tk⟩
  · rw [hset_ne z] at e
    have q1 := r a u e
    cases u with
    | lst ds =>
      obtain ⟨xs', e', q'⟩ := q1
      exact ⟨xs', by rw [upd_ne z]; exact e', q'.mono tk⟩

/-! ### slots -/
abbrev SD := List (Option D)
/-- the hand layer's context and a heap whose tuples and locked things still stand -/
structure Cy extends Cx where
  bh : Hp
instance : Coe Cy Cx := ⟨Cy.toCx⟩
structure SR (X : Cy) (H : Hp) (σ : L2.St) (τ : SD) : Prop where
  tk : TK X.bh H
  len : τ.length = σ.length
  get : ∀ (i : Nat) (d : D), τ[i]? = some (some d) → ∃ v, σ[i]? = some (some v) ∧ Dn X.K H v d
theorem SR.mono {X : Cy} {H H' : Hp} {σ : L2.St} {τ : SD} (t : TK H H') (r : SR X H σ τ) : SR X H' σ τ :=
  ⟨r.tk.trans t, r.len, fun i d e => by
    obtain ⟨v, h1, h2⟩ := r.get i d e
    exact ⟨v, h1, h2.mono t⟩⟩
theorem SR.set {X : Cy} {H : Hp} {σ : L2.St} {τ : SD} {v : V} {d : D} (r : SR X H σ τ) (q : Dn X.K H v d) (j : Nat) : SR X H (σ.set j (some v)) (τ.set j (some d)) := by
  refine ⟨r.tk, by rw [List.length_set, List.length_set]; exact r.len, fun i d' e => ?_⟩
  by_cases z : j = i
  · subst z
    by_cases hl : j < τ.length
    · rw [List.getElem?_set_self hl] at e
      cases e
      exact ⟨v, by rw [List.getElem?_set_self (by rw [← r.len]; exact hl)], q⟩
    · rw [List.getElem?_eq_none (by rw [List.length_set]; omega)] at e
      cases e
  · rw [List.getElem?_set_ne z] at e
    obtain ⟨v', h1, h2⟩ := r.get i d' e
    exact ⟨v', by rw [List.getElem?_set_ne z]; exact h1, h2⟩
/-- less is known -/
theorem SR.forget {X : Cy} {H : Hp} {σ : L2.St} {τ τ' : SD} (r : SR X H σ τ) (hl : τ'.length = τ.length) (h : ∀ (i : Nat) (d : D), τ'[i]? = some (some d) → τ[i]? = some (some d)) : SR X H σ τ' :=
  ⟨r.tk, hl.trans r.len, fun i d e => r.get i d (h i d e)⟩

/-! ### what an expression, a test, arguments, a statement come to -/
abbrev QD := D → HD → Prop
def EPD (X : Cy) (pins : List (Addr × Obj)) (σ : L2.St) (H : Hp) (Q : QD) (u : Value) (s' : Shared) : Prop :=
  ∃ v H' d h', Inv X pins σ H' s' ∧ RelV v u ∧ TK H H' ∧ Dn X.K H' v d ∧ HR X.K H' h' ∧ Q d h'
def TPD (X : Cy) (pins : List (Addr × Obj)) (σ : L2.St) (H : Hp) (Q : Bool → HD → Prop) (b : Bool) (s' : Shared) : Prop :=
  ∃ H' h', Inv X pins σ H' s' ∧ TK H H' ∧ HR X.K H' h' ∧ Q b h'
def APD (X : Cy) (pins : List (Addr × Obj)) (σ : L2.St) (H : Hp) (Q : List D → HD → Prop) (us : List Value) (s' : Shared) : Prop :=
  ∃ vs H' ds h', Inv X pins σ H' s' ∧ Vals vs us ∧ TK H H' ∧ DnA X.K H' vs ds ∧ HR X.K H' h' ∧ Q ds h'
structure KD where
  nx : SD → HD → Prop
  rt : QD
  bk : SD → HD → Prop := fun _ _ => False
  ct : SD → HD → Prop := fun _ _ => False
def SPD (X : Cy) (pins : List (Addr × Obj)) (H : Hp) (D : KD) (f : Flow) (s' : Shared) : Prop :=
  match f with
  | .next => ∃ σ' H' τ' h', Inv X pins σ' H' s' ∧ TK H H' ∧ SR X H' σ' τ' ∧ HR X.K H' h' ∧ D.nx τ' h'
  | .brk => ∃ σ' H' τ' h', Inv X pins σ' H' s' ∧ TK H H' ∧ SR X H' σ' τ' ∧ HR X.K H' h' ∧ D.bk τ' h'
  | .cont => ∃ σ' H' τ' h', Inv X pins σ' H' s' ∧ TK H H' ∧ SR X H' σ' τ' ∧ HR X.K H' h' ∧ D.ct τ' h'
  | .ret u => ∃ v σ' H' d h', Inv X pins σ' H' s' ∧ RelV v u ∧ TK H H' ∧ Dn X.K H' v d ∧ HR X.K H' h' ∧ D.rt d h'

def wE (X : Cy) (e : Expr) (τ : SD) (h : HD) (Q : QD) : Prop :=
  ∀ (pins : List (Addr × Obj)) (s : Shared) (σ : L2.St) (H : Hp), Inv X pins σ H s → SR X H σ τ → HR X.K H h → wpAny (model X.prog X.w) X.A (eval e X.env) (EPD X pins σ H Q) X.xe s
def wT (X : Cy) (e : Expr) (τ : SD) (h : HD) (Q : Bool → HD → Prop) : Prop :=
  ∀ (pins : List (Addr × Obj)) (s : Shared) (σ : L2.St) (H : Hp), Inv X pins σ H s → SR X H σ τ → HR X.K H h → wpAny (model X.prog X.w) X.A (isTrue e X.env (eval e X.env)) (TPD X pins σ H Q) X.xe s
/-- a test whatever its whole is -/
def wW (X : Cy) (e : Expr) (τ : SD) (h : HD) (Q : Bool → HD → Prop) : Prop :=
  ∀ (whole : Sem Value) (pins : List (Addr × Obj)) (s : Shared) (σ : L2.St) (H : Hp), Inv X pins σ H s → SR X H σ τ → HR X.K H h → wpAny (model X.prog X.w) X.A (isTrue e X.env whole) (TPD X pins σ H Q) X.xe s
def wA (X : Cy) (es : List Expr) (τ : SD) (h : HD) (Q : List D → HD → Prop) : Prop :=
  ∀ (pos : Pos) (pins : List (Addr × Obj)) (s : Shared) (σ : L2.St) (H : Hp), Inv X pins σ H s → SR X H σ τ → HR X.K H h → wpAny (model X.prog X.w) X.A (spliced (backTo pos (starEach es X.env))) (APD X pins σ H Q) X.xe s
def wS (X : Cy) (st : Stmt) (τ : SD) (h : HD) (D : KD) : Prop :=
  ∀ (pins : List (Addr × Obj)) (s : Shared) (σ : L2.St) (H : Hp), Inv X pins σ H s → SR X H σ τ → HR X.K H h → wpAny (model X.prog X.w) X.A (exec st X.env) (SPD X pins H D) X.xe s
def wB (X : Cy) (sts : List Stmt) (τ : SD) (h : HD) (D : KD) : Prop :=
  ∀ (pins : List (Addr × Obj)) (s : Shared) (σ : L2.St) (H : Hp), Inv X pins σ H s → SR X H σ τ → HR X.K H h → wpAny (model X.prog X.w) X.A (execs sts X.env) (SPD X pins H D) X.xe s

/-! ### to and from the hand layer's readings -/
section
variable {X : Cy} {e : Expr} {τ : SD} {h : HD}
/-- what the hand layer's continuation has to bear -/
def kE (X : Cy) (H : Hp) (Q : QD) : VK := fun v H' => ∃ d h', TK H H' ∧ Dn X.K H' v d ∧ HR X.K H' h' ∧ Q d h'
def kT (X : Cy) (H : Hp) (Q : Bool → HD → Prop) : Bool → Hp → Prop := fun b H' => ∃ h', TK H H' ∧ HR X.K H' h' ∧ Q b h'
def kA (X : Cy) (H : Hp) (Q : List D → HD → Prop) : List V → Hp → Prop := fun vs H' => ∃ ds h', TK H H' ∧ DnA X.K H' vs ds ∧ HR X.K H' h' ∧ Q ds h'
def kN (X : Cy) (H : Hp) (Q : SD → HD → Prop) : L2.St → Hp → Prop := fun σ' H' => ∃ τ' h', TK H H' ∧ SR X H' σ' τ' ∧ HR X.K H' h' ∧ Q τ' h'
def kS (X : Cy) (H : Hp) (D : KD) : Ends := ⟨kN X H D.nx, kE X H D.rt, kN X H D.bk, kN X H D.ct⟩
def tE (X : Cy) (e : Expr) : TE := fun σ H Q => ∃ τ h QD, SR X H σ τ ∧ HR X.K H h ∧ wE X e τ h QD ∧ ∀ v H', kE X H QD v H' → Q v H'
def tT (X : Cy) (e : Expr) : TT := fun σ H Q => ∃ τ h QD, SR X H σ τ ∧ HR X.K H h ∧ wT X e τ h QD ∧ ∀ v H', kT X H QD v H' → Q v H'
def tA (X : Cy) (es : List Expr) : TA := fun σ H Q => ∃ τ h QD, SR X H σ τ ∧ HR X.K H h ∧ wA X es τ h QD ∧ ∀ v H', kA X H QD v H' → Q v H'
def tS (X : Cy) (st : Stmt) : TS := fun D σ H => ∃ τ h KD, SR X H σ τ ∧ HR X.K H h ∧ wS X st τ h KD ∧ (∀ σ' H', kN X H KD.nx σ' H' → D.nx σ' H') ∧ (∀ v H', kE X H KD.rt v H' → D.rt v H') ∧ (∀ σ' H', kN X H KD.bk σ' H' → D.bk σ' H') ∧ ∀ σ' H', kN X H KD.ct σ' H' → D.ct σ' H'
def tBk (X : Cy) (sts : List Stmt) : TS := fun D σ H => ∃ τ h KD, SR X H σ τ ∧ HR X.K H h ∧ wB X sts τ h KD ∧ (∀ σ' H', kN X H KD.nx σ' H' → D.nx σ' H') ∧ (∀ v H', kE X H KD.rt v H' → D.rt v H') ∧ (∀ σ' H', kN X H KD.bk σ' H' → D.bk σ' H') ∧ ∀ σ' H', kN X H KD.ct σ' H' → D.ct σ' H'
theorem pe_tE : PE X e (tE X e) := ⟨fun pins s σ H Q I ⟨τ, h, QD, a, b, c, k⟩ => thn (c pins s σ H I a b) fun u s' ⟨v, H', d, h', I', r, t, q1, q2, q⟩ => ⟨v, H', I', r, k v H' ⟨d, h', t, q1, q2, q⟩⟩⟩
theorem pt_tT : PT X e (tT X e) := ⟨fun pins s σ H Q I ⟨τ, h, QD, a, b, c, k⟩ => thn (c pins s σ H I a b) fun u s' ⟨H', h', I', t, q2, q⟩ => ⟨H', I', k _ H' ⟨h', t, q2, q⟩⟩⟩
theorem pa_tA {es : List Expr} : PA X es (tA X es) := ⟨fun pos pins s σ H Q I ⟨τ, h, QD, a, b, c, k⟩ => thn (c pos pins s σ H I a b) fun u s' ⟨vs, H', ds, h', I', r, t, q1, q2, q⟩ => ⟨vs, H', I', r, k vs H' ⟨ds, h', t, q1, q2, q⟩⟩⟩
theorem sp_of {pins : List (Addr × Obj)} {H : Hp} {K : KD} {D : Ends} {f : Flow} {s' : Shared} (z : SPD X pins H K f s') (k1 : ∀ σ' H', kN X H K.nx σ' H' → D.nx σ' H') (k2 : ∀ v H', kE X H K.rt v H' → D.rt v H')
    (k3 : ∀ σ' H', kN X H K.bk σ' H' → D.bk σ' H') (k4 : ∀ σ' H', kN X H K.ct σ' H' → D.ct σ' H') : SP X pins D f s' := by
  cases f with
  | next =>
    obtain ⟨σ', H', τ', h', I', t, q1, q2, q⟩ := z
    exact ⟨σ', H', I', k1 _ _ ⟨τ', h', t, q1, q2, q⟩⟩
  | brk =>
    obtain ⟨σ', H', τ', h', I', t, q1, q2, q⟩ := z
    exact ⟨σ', H', I', k3 _ _ ⟨τ', h', t, q1, q2, q⟩⟩
  | cont =>
    obtain ⟨σ', H', τ', h', I', t, q1, q2, q⟩ := z
    exact ⟨σ', H', I', k4 _ _ ⟨τ', h', t, q1, q2, q⟩⟩
  | ret u =>
    obtain ⟨v, σ', H', d, h', I', r, t, q1, q2, q⟩ := z
    exact ⟨v, σ', H', I', r, k2 _ _ ⟨d, h', t, q1, q2, q⟩⟩
theorem ps_tS {st : Stmt} : PS X st (tS X st) := ⟨fun pins s σ H D I ⟨τ, h, KD, a, b, c, k1, k2, k3, k4⟩ => thn (c pins s σ H I a b) fun u s' z => sp_of z k1 k2 k3 k4⟩
theorem pss_tB {sts : List Stmt} : PSs X sts (tBk X sts) := ⟨fun pins s σ H D I ⟨τ, h, KD, a, b, c, k1, k2, k3, k4⟩ => thn (c pins s σ H I a b) fun u s' z => sp_of z k1 k2 k3 k4⟩
theorem wE_of {t : TE} {Q : QD} (p : PE X e t) (k : ∀ σ H, SR X H σ τ → HR X.K H h → t σ H (kE X H Q)) : wE X e τ h Q := fun pins s σ H I a b =>
  thn (p.run pins s σ H _ I (k σ H a b)) fun u s' ⟨v, H', I', r, d, h', t, q1, q2, q⟩ => ⟨v, H', d, h', I', r, t, q1, q2, q⟩
theorem wT_of {t : TT} {Q : Bool → HD → Prop} (p : PT X e t) (k : ∀ σ H, SR X H σ τ → HR X.K H h → t σ H (kT X H Q)) : wT X e τ h Q := fun pins s σ H I a b =>
  thn (p.run pins s σ H _ I (k σ H a b)) fun u s' ⟨H', I', h', t, q2, q⟩ => ⟨H', h', I', t, q2, q⟩
theorem spd_of {pins : List (Addr × Obj)} {H : Hp} {D : KD} {f : Flow} {s' : Shared} (z : SP X pins (kS X H D) f s') : SPD X pins H D f s' := by
  cases f with
  | next =>
    obtain ⟨σ', H', I', τ', h', t, q1, q2, q⟩ := z
    exact ⟨σ', H', τ', h', I', t, q1, q2, q⟩
  | brk =>
    obtain ⟨σ', H', I', τ', h', t, q1, q2, q⟩ := z
    exact ⟨σ', H', τ', h', I', t, q1, q2, q⟩
  | cont =>
    obtain ⟨σ', H', I', τ', h', t, q1, q2, q⟩ := z
    exact ⟨σ', H', τ', h', I', t, q1, q2, q⟩
  | ret u =>
    obtain ⟨v, σ', H', I', r, d, h', t, q1, q2, q⟩ := z
    exact ⟨v, σ', H', d, h', I', r, t, q1, q2, q⟩
theorem wS_of {st : Stmt} {t : TS} {D : KD} (p : PS X st t) (k : ∀ σ H, SR X H σ τ → HR X.K H h → t (kS X H D) σ H) : wS X st τ h D := fun pins s σ H I a b =>
  thn (p.run pins s σ H _ I (k σ H a b)) fun f s' z => spd_of z
theorem wB_of {sts : List Stmt} {t : TS} {D : KD} (p : PSs X sts t) (k : ∀ σ H, SR X H σ τ → HR X.K H h → t (kS X H D) σ H) : wB X sts τ h D := fun pins s σ H I a b =>
  thn (p.run pins s σ H _ I (k σ H a b)) fun f s' z => spd_of z
theorem kE.trans {H H1 : Hp} {Q : QD} {v : V} {H' : Hp} (t : TK H H1) (k : kE X H1 Q v H') : kE X H Q v H' := by
  obtain ⟨d, h', t', q⟩ := k
  exact ⟨d, h', t.trans t', q⟩
theorem kT.trans {H H1 : Hp} {Q : Bool → HD → Prop} {b : Bool} {H' : Hp} (t : TK H H1) (k : kT X H1 Q b H') : kT X H Q b H' := by
  obtain ⟨h', t', q⟩ := k
  exact ⟨h', t.trans t', q⟩
theorem kN.trans {H H1 : Hp} {Q : SD → HD → Prop} {σ : L2.St} {H' : Hp} (t : TK H H1) (k : kN X H1 Q σ H') : kN X H Q σ H' := by
  obtain ⟨τ', h', t', q⟩ := k
  exact ⟨τ', h', t.trans t', q⟩
theorem kA.trans {H H1 : Hp} {Q : List D → HD → Prop} {vs : List V} {H' : Hp} (t : TK H H1) (k : kA X H1 Q vs H') : kA X H Q vs H' := by
  obtain ⟨τ', h', t', q⟩ := k
  exact ⟨τ', h', t.trans t', q⟩
/-- weaker ends -/
theorem wE.imp {Q Q' : QD} (a : wE X e τ h Q) (k : ∀ d h', Q d h' → Q' d h') : wE X e τ h Q' := fun pins s σ H I r q =>
  thn (a pins s σ H I r q) fun u s' ⟨v, H', d, h', I', rv, t, q1, q2, z⟩ => ⟨v, H', d, h', I', rv, t, q1, q2, k d h' z⟩
/-- what is known of the heap may be forgotten -/
theorem wE.less {Q : QD} (a : wE X e τ h fun d h1 => ∃ h2, Ext h2 h1 ∧ Q d h2) : wE X e τ h Q := fun pins s σ H I r q =>
  thn (a pins s σ H I r q) fun u s' ⟨v, H', d, h', I', rv, t, q1, q2, h2, x, z⟩ => ⟨v, H', d, h2, I', rv, t, q1, q2.ext x, z⟩
end
end Dv
/-! Rules: expressions and tests. -/
namespace Dv
open PySem PySem.Spec PyProof.Rows L2

/-! ### names -/
inductive At : List Str → SD → Str → D → Prop
  | here {x : Str} {N : List Str} {d : D} {τ : SD} : At (x :: N) (some d :: τ) x d
  | there {x y : Str} {N : List Str} {d : D} {o : Option D} {τ : SD} : At N τ x d → At (y :: N) (o :: τ) x d
inductive Put : List Str → SD → Str → D → SD → Prop
  | here {x : Str} {N : List Str} {d : D} {o : Option D} {τ : SD} : Put (x :: N) (o :: τ) x d (some d :: τ)
  | there {x y : Str} {N : List Str} {d : D} {o : Option D} {τ τ' : SD} : Put N τ x d τ' → Put (y :: N) (o :: τ) x d (o :: τ')
theorem At.ix : ∀ {N : List Str} {τ : SD} {x : Str} {d : D}, At N τ x d → ∃ i : Nat, N[i]? = some x ∧ τ[i]? = some (some d)
  | _, _, _, _, .here => ⟨0, rfl, rfl⟩
  | _, _, _, _, .there h => by
    obtain ⟨i, h1, h2⟩ := At.ix h
    exact ⟨i + 1, by simpa using h1, by simpa using h2⟩
theorem Put.ix : ∀ {N : List Str} {τ τ' : SD} {x : Str} {d : D}, Put N τ x d τ' → ∃ i : Nat, N[i]? = some x ∧ τ' = τ.set i (some d)
  | _, _, _, _, _, .here => ⟨0, rfl, rfl⟩
  | _, _, _, _, _, .there h => by
    obtain ⟨i, h1, h2⟩ := Put.ix h
    exact ⟨i + 1, by simpa using h1, by rw [h2]; rfl⟩
/-- built-in names that no module of the program takes -/
def BL : List Str := ["len", "tuple", "range", "zip", "enumerate", "list", "max", "int", "isinstance", "reversed", "abs", "min", "all", "sum", "sorted", "str", "bool", "ValueError", "divmod", "repr", "set", "any"]
/-- the names of a def: N its slots, G the module's and built-in names it uses, S what it stores -/
structure Cok (X : Cy) (N G S : List Str) : Prop where
  hN : X.N = N
  nd : X.N.Nodup
  vis : ∀ x ∈ N, Vis X.env.scope x
  sto : ∀ x ∈ S, Loc X.env.scope x ∧ (X.fn x = true ∨ X.env.scope.names.lookup x = some .local)
  gl : ∀ x ∈ G, Gl X x
  db : ∀ x ∈ N ++ G, (x == ("__debug__" : Str)) = false ∧ (x == ("__classdict__" : Str)) = false ∧ x ≠ "__name__"
  stk : X.stack = X.env :: X.outer
  frm : X.env.frame = some X.env.locals
  po : PassesOwn (model X.prog X.w) X.A X.env X.xe
  un : X.A.units + 64 < cLine
  bl : ∀ x ∈ BL, X.mg x = none
section
variable {X : Cy} {N G S : List Str} {τ : SD} {h : HD} {Q : QD} {QT : Bool → HD → Prop} {pos : Pos}
theorem At.mem {N : List Str} {τ : SD} {x : Str} {d : D} (a : At N τ x d) : x ∈ N := by
  obtain ⟨i, h1, _⟩ := a.ix
  exact List.mem_of_getElem? h1
theorem wE_name {x : Str} {d : D} (C : Cok X N G S) (a : At N τ x d) (q : Q d h) : wE X (.Name x pos) τ h Q := by
  have hx := a.mem
  obtain ⟨i, h1, h2⟩ := a.ix
  refine wE_of (pe_var (i := i) (by rw [C.hN]; exact h1) (C.vis x hx) (C.db x (List.mem_append_left _ hx)).1 (C.db x (List.mem_append_left _ hx)).2.1) fun σ H r b => ?_
  obtain ⟨v, e, n⟩ := r.get i d h2
  exact ⟨v, e, d, h, TK.refl H, n, b, q⟩
/-- a constant of the module -/
structure GlD (K : PySem.W.Frag) (mg : Str → Option Value) (x : Str) (d : D) : Prop where
  ex : ∃ (u : Value) (v : V), mg x = some u ∧ RelV v u ∧ ∀ H : Hp, Dn K H v d
theorem wE_glob {x : Str} {d : D} (C : Cok X N G S) (hg : x ∈ G) (g : GlD X.K X.mg x d) (q : Q d h) : wE X (.Name x pos) τ h Q := by
  obtain ⟨u, v, e, r, n⟩ := g.ex
  exact wE_of (pe_glob (C.gl x hg) e r (C.db x (List.mem_append_right _ hg)).1) fun σ H _ b => ⟨d, h, TK.refl H, n H, b, q⟩
/-- a built-in class as a value -/
theorem wE_type {x : Str} {n : String} (C : Cok X N G S) (hg : x ∈ G) (hb : x ∈ BL) (hv : bootBuiltins x = some (.type n)) (q : Q (.ty n) h) : wE X (.Name x pos) τ h Q :=
  wE_of (pe_bltn (v := .ty n) (C.gl x hg) (C.bl x hb) hv rfl (C.db x (List.mem_append_right _ hg)).2.2 (C.db x (List.mem_append_right _ hg)).1) fun σ H _ b => ⟨_, h, TK.refl H, .ty n, b, q⟩
theorem wE_int {i : Int} {j} (q : Q (.int i) h) : wE X (.Constant (.int i) j pos) τ h Q := wE_of pe_int fun σ H _ b => ⟨_, h, TK.refl H, .int i, b, q⟩
theorem wE_bl {i : Bool} {j} (q : Q (.bl i) h) : wE X (.Constant (.bool i) j pos) τ h Q := wE_of pe_bl fun σ H _ b => ⟨_, h, TK.refl H, .bl i, b, q⟩
theorem wE_non {j} (q : Q .non h) : wE X (.Constant .none j pos) τ h Q := wE_of pe_non fun σ H _ b => ⟨_, h, TK.refl H, .non, b, q⟩
theorem wE_str {x : Str} {j} (q : Q (.str x) h) : wE X (.Constant (.str x) j pos) τ h Q := wE_of pe_str fun σ H _ b => ⟨_, h, TK.refl H, .str x, b, q⟩

/-! ### argument lists, displays -/
theorem wA_nil {Q : List D → HD → Prop} (q : Q [] h) : wA X [] τ h Q := fun pos pins s σ H I _ b => Calls.spliced_nil ⟨[], H, [], h, I, .nil, TK.refl H, .nil, b, q⟩
theorem wA_cons {e : Expr} {es : List Expr} {Q : List D → HD → Prop} (a : wE X e τ h fun d h1 => wA X es τ h1 fun ds h2 => Q (d :: ds) h2) (hs : starEach (e :: es) X.env = (false, eval e X.env) :: starEach es X.env := by rfl) : wA X (e :: es) τ h Q := by
  intro pos pins s σ H I r b
  rw [hs]
  show wpAny _ _ (spliced ((false, eval e X.env) :: backTo pos (starEach es X.env))) _ _ s
  refine Calls.spliced_cons (thn (a pins s σ H I r b) fun u s1 ⟨v, H1, d, h1, I1, r1, t1, n1, b1, w⟩ => ?_)
  exact thn (w pos pins s1 σ H1 I1 (r.mono t1) b1) fun us s2 ⟨vs, H2, ds, h2, I2, r2, t2, n2, b2, q⟩ => ⟨v :: vs, H2, d :: ds, h2, I2, .cons r1 r2, t1.trans t2, .cons (n1.mono t2) n2, b2, q⟩
theorem wE_tup {es : List Expr} {x1} (a : wA X es τ h fun ds h1 => ds.length ≤ sizeLine ∧ Q (.tup ds) h1) : wE X (.Tuple es x1 pos) τ h Q := by
  refine wE_of (pe_tup pa_tA) fun σ H r b => ⟨τ, h, _, r, b, a, fun vs H1 ⟨ds, h1, t1, n1, b1, hl, q⟩ => ⟨by rw [n1.length]; exact hl, fun p hp => ?_⟩⟩
  exact ⟨_, h1, t1.trans (.upd_new hp), .tup (.of upd_same) (n1.mono (.upd_new hp)), b1.upd_new hp, q⟩
theorem wE_lst {es : List Expr} (a : wA X es τ h fun ds h1 => ds.length ≤ sizeLine ∧ ∀ p, h1 p = none → Q (.ref p) (hset h1 p (.lst ds))) : wE X (.List es pos) τ h Q := by
  refine wE_of (pe_lst pa_tA) fun σ H r b => ⟨τ, h, _, r, b, a, fun vs H1 ⟨ds, h1, t1, n1, b1, hl, q⟩ => ⟨by rw [n1.length]; exact hl, fun p hp => ?_⟩⟩
  exact ⟨_, _, t1.trans (.upd_new hp), .ref p, b1.new_lst hp n1, q p (b1.free hp)⟩

/-! ### two values -/
theorem two {a b : Expr} {R : D → D → HD → Prop} {P : Value → Shared → Prop} {f : Value → Value → Sem Value} {pins : List (Addr × Obj)} {s : Shared} {σ : L2.St} {H : Hp} (w : wE X a τ h fun x h1 => wE X b τ h1 fun y h2 => R x y h2)
    (I : Inv X pins σ H s) (r : SR X H σ τ) (q : HR X.K H h)
    (hf : ∀ v u s2 x y dx dy H2 h2, Inv X pins σ H2 s2 → RelV x v → RelV y u → TK H H2 → Dn X.K H2 x dx → Dn X.K H2 y dy → HR X.K H2 h2 → R dx dy h2 → wpAny (model X.prog X.w) X.A (f v u) P X.xe s2) :
    wpAny (model X.prog X.w) X.A (eval a X.env) (fun v s₁ => wpAny (model X.prog X.w) X.A (eval b X.env) (fun u s₂ => wpAny (model X.prog X.w) X.A (f v u) P X.xe s₂) X.xe s₁) X.xe s :=
  thn (w pins s σ H I r q) fun v s1 ⟨x, H1, dx, h1, I1, r1, t1, n1, q1, w1⟩ => thn (w1 pins s1 σ H1 I1 (r.mono t1) q1) fun u s2 ⟨y, H2, dy, h2, I2, r2, t2, n2, q2, z⟩ =>
    hf v u s2 x y dx dy H2 h2 I2 r1 r2 (t1.trans t2) (n1.mono t2) n2 q2 z
theorem EPD.of {pins : List (Addr × Obj)} {σ : L2.St} {H H1 : Hp} {u : Value} {s : Shared} (t : TK H H1) (z : EP X pins σ (kE X H1 Q) u s) : EPD X pins σ H Q u s := by
  obtain ⟨v, H', I, r, d, h', t', n, b, q⟩ := z
  exact ⟨v, H', d, h', I, r, t.trans t', n, b, q⟩

/-! ### operators -/
def binD (op : Operator) (x y : D) (h : HD) (k : QD) : Prop :=
  match op, x, y with
  | .Add, .int i, .int j => k (.int (i + j)) h
  | .Sub, .int i, .int j => k (.int (i - j)) h
  | .Mult, .int i, .int j => CMulX i j ∧ k (.int (i * j)) h
  | .FloorDiv, .int i, .int j => (j ≠ 0 ∧ Builtin.divisionGoesByPylong i j = false) ∧ k (.int (i.fdiv j)) h
  | .Mod, .int i, .int j => j ≠ 0 ∧ k (.int (i.fmod j)) h
  | .Pow, .int i, .int j => (0 ≤ j ∧ (Builtin.Int.intBits i : Int) * j ≤ 2 ^ 27) ∧ k (.int (i ^ j.toNat)) h
  | .Add, .str a, .str b => a.length + b.length ≤ sizeLine ∧ k (.str (a ++ b)) h
  | _, _, _ => False
theorem binD_ok {op : Operator} {pins : List (Addr × Obj)} {σ : L2.St} {H : Hp} {s : Shared} {x y : V} {v u : Value} {dx dy : D} (I : Inv X pins σ H s) (rx : RelV x v) (ry : RelV y u) (nx : Dn X.K H x dx) (ny : Dn X.K H y dy) (b : HR X.K H h)
    (z : binD op dx dy h Q) : wpAny (model X.prog X.w) X.A (binaryOp op v u) (EPD X pins σ H Q) X.xe s := by
  have I1 := I
  unfold binD at z
  split at z
  · cases nx; cases ny
    exact thn (op_add pins s σ H _ _ v u _ I rx ry ⟨_, _, rfl, rfl, _, h, TK.refl H, .int _, b, z⟩) fun _ _ => EPD.of (TK.refl H)
  · cases nx; cases ny
    exact thn (op_sub pins s σ H _ _ v u _ I rx ry ⟨_, _, rfl, rfl, _, h, TK.refl H, .int _, b, z⟩) fun _ _ => EPD.of (TK.refl H)
  · cases nx; cases ny
    exact thn (op_mulX pins s σ H _ _ v u _ I rx ry ⟨_, _, rfl, rfl, z.1, _, h, TK.refl H, .int _, b, z.2⟩) fun _ _ => EPD.of (TK.refl H)
  · cases nx; cases ny
    obtain ⟨t, rfl⟩ := rx
    obtain ⟨t', rfl⟩ := ry
    exact floordiv_int z.1.1 ⟨.int _, H, _, h, I.tok _, ⟨_, rfl⟩, TK.refl H, .int _, b, z.2⟩ (.inl z.1.2)
  · cases nx; cases ny
    obtain ⟨t, rfl⟩ := rx
    obtain ⟨t', rfl⟩ := ry
    exact mod_int' z.1 ⟨.int _, H, _, h, I.tok _, ⟨_, rfl⟩, TK.refl H, .int _, b, z.2⟩
  · cases nx; cases ny
    obtain ⟨t, rfl⟩ := rx
    obtain ⟨t', rfl⟩ := ry
    exact pow_int z.1.1 z.1.2 ⟨.int _, H, _, h, I.tok _, ⟨_, rfl⟩, TK.refl H, .int _, b, z.2⟩
  · cases nx; cases ny
    exact thn (op_add_str pins s σ H _ _ v u _ I rx ry ⟨_, _, rfl, rfl, z.1, _, h, TK.refl H, .str _, b, z.2⟩) fun _ _ => EPD.of (TK.refl H)
  · exact z.elim
theorem wE_bin {a b : Expr} {op : Operator} (w : wE X a τ h fun x h1 => wE X b τ h1 fun y h2 => binD op x y h2 Q) : wE X (.BinOp a op b pos) τ h Q := fun pins s σ H I r q =>
  wpAny_BinOp (two w I r q fun v u s2 x y dx dy H2 h2 I2 rx ry t n1 n2 q2 z => thn (binD_ok I2 rx ry n1 n2 q2 z) fun w' s3 ⟨v', H', d, h', I', r', t', n', b', z'⟩ => ⟨v', H', d, h', I', r', t.trans t', n', b', z'⟩)
def unD (op : UnaryOp) (x : D) (h : HD) (k : QD) : Prop :=
  match op, x with
  | .USub, .int i => k (.int (-i)) h
  | _, _ => False
theorem wE_un {a : Expr} {op : UnaryOp} (w : wE X a τ h fun x h1 => unD op x h1 Q) : wE X (.UnaryOp op a pos) τ h Q := fun pins s σ H I r q => by
  refine UnaryOp_ (thn (w pins s σ H I r q) fun v s1 ⟨x, H1, dx, h1, I1, r1, t1, n1, q1, z⟩ => ?_)
  have z : unD op dx h1 Q := z
  unfold unD at z
  split at z
  · cases n1
    exact thn (un_neg pins s1 σ H1 _ v _ I1 r1 ⟨_, rfl, _, h1, TK.refl H1, .int _, q1, z⟩) fun _ _ => EPD.of t1
  · exact z.elim

/-! ### comparisons -/
def cmpD (op : CmpOp) (x y : D) (k : Bool → Prop) : Prop :=
  match op, x, y with
  | .Lt, .int i, .int j => k (decide (i < j))
  | .LtE, .int i, .int j => k (decide (i ≤ j))
  | .Gt, .int i, .int j => k (decide (j < i))
  | .GtE, .int i, .int j => k (decide (j ≤ i))
  | .Eq, .int i, .int j => k (decide (i = j))
  | .NotEq, .int i, .int j => k (!decide (i = j))
  | .Eq, .str i, .str j => k (decide (i = j))
  | .NotEq, .str i, .str j => k (!decide (i = j))
  | .Is, .non, .non => k true
  | .Is, .int _, .non => k false
  | .Is, .tup _, .non => k false
  | .Is, .ref _, .non => k false
  | .Is, .bl _, .non => k false
  | .Is, .str _, .non => k false
  | .IsNot, .non, .non => k false
  | .IsNot, .int _, .non => k true
  | .IsNot, .tup _, .non => k true
  | .IsNot, .ref _, .non => k true
  | .IsNot, .bl _, .non => k true
  | .IsNot, .str _, .non => k true
  | _, _, _ => False
theorem dv_int {i j : Int} : decide (V.int i = V.int j) = decide (i = j) := decide_eq_decide.mpr (by simp)
theorem dv_str {i j : Str} : decide (V.str i = V.str j) = decide (i = j) := decide_eq_decide.mpr (by simp)
theorem cmpD_ok {op : CmpOp} {pins : List (Addr × Obj)} {σ : L2.St} {H : Hp} {s : Shared} {x y : V} {v u : Value} {dx dy : D} (I : Inv X pins σ H s) (rx : RelV x v) (ry : RelV y u) (nx : Dn X.K H x dx) (ny : Dn X.K H y dy) (b : HR X.K H h)
    (z : cmpD op dx dy fun c => Q (.bl c) h) : wpAny (model X.prog X.w) X.A (compareOp op v u) (EPD X pins σ H Q) X.xe s := by
  have go : ∀ {r : R2} {c : Bool}, OpR X (compareOp op) r → r x y H (kE X H Q) → wpAny (model X.prog X.w) X.A (compareOp op v u) (EPD X pins σ H Q) X.xe s := fun o k => thn (o pins s σ H _ _ v u _ I rx ry k) fun _ _ => EPD.of (TK.refl H)
  have fin : ∀ {c : Bool}, Q (.bl c) h → kE X H Q (.bl c) H := fun k => ⟨_, h, TK.refl H, .bl _, b, k⟩
  unfold cmpD at z
  split at z
  · cases nx; cases ny; exact go (c := true) op_lt ⟨_, _, rfl, rfl, fin z⟩
  · cases nx; cases ny; exact go (c := true) op_le ⟨_, _, rfl, rfl, fin z⟩
  · cases nx; cases ny; exact go (c := true) op_gt ⟨_, _, rfl, rfl, fin z⟩
  · cases nx; cases ny; exact go (c := true) op_ge ⟨_, _, rfl, rfl, fin z⟩
  · cases nx; cases ny
    refine go (c := true) op_eq ⟨rfl, ?_⟩
    rw [dv_int]
    exact fin z
  · cases nx; cases ny
    refine go (c := true) op_ne ⟨rfl, ?_⟩
    rw [dv_int]
    exact fin z
  · cases nx; cases ny
    refine go (c := true) op_eq ⟨rfl, ?_⟩
    rw [dv_str]
    exact fin z
  · cases nx; cases ny
    refine go (c := true) op_ne ⟨rfl, ?_⟩
    rw [dv_str]
    exact fin z
  all_goals first
    | exact z.elim
    | (cases nx <;> cases ny <;> first
        | exact go (c := true) op_isN ⟨rfl, fin z⟩
        | exact go (c := true) op_notN ⟨rfl, fin z⟩)
theorem wE_cmp {a b : Expr} {op : CmpOp} (w : wE X a τ h fun x h1 => wE X b τ h1 fun y h2 => cmpD op x y fun c => Q (.bl c) h2) (hm : behindInMarks op b = false := by first | exact nomark _ | rfl) : wE X (.Compare a [op] [b] pos) τ h Q := fun pins s σ H I r q =>
  wpAny_Compare1 (two w I r q fun v u s2 x y dx dy H2 h2 I2 rx ry t n1 n2 q2 z => thn (cmpD_ok I2 rx ry n1 n2 q2 z) fun w' s3 ⟨v', H', d, h', I', r', t', n', b', z'⟩ => ⟨v', H', d, h', I', r', t.trans t', n', b', z'⟩) hm
theorem wT_cmp {a b : Expr} {op : CmpOp} (w : wE X a τ h fun x h1 => wE X b τ h1 fun y h2 => cmpD op x y fun c => QT c h2) (hm : behindInMarks op b = false := by first | exact nomark _ | rfl) : wT X (.Compare a [op] [b] pos) τ h QT := fun pins s σ H I r q =>
  wpAny_isTrue_Compare1 (thn (w pins s σ H I r q) fun v s1 ⟨x, H1, dx, h1, I1, r1, t1, n1, q1, w1⟩ => thn (w1 pins s1 σ H1 I1 (r.mono t1) q1) fun u s2 ⟨y, H2, dy, h2, I2, r2, t2, n2, q2, z⟩ =>
    thn (cmpD_ok (Q := fun d h' => ∃ c, d = .bl c ∧ QT c h') I2 r1 r2 (n1.mono t2) n2 q2 (by
      revert z
      unfold cmpD
      split <;> first
        | exact fun z => ⟨_, rfl, z⟩
        | exact id)) fun w' s3 ⟨v', H', d, h', I', r', t', n', b', c, e, z'⟩ => by
      subst e
      cases n'
      cases r'
      exact wpAny_truthy_bool ⟨H', h', I', (t1.trans t2).trans t', b', z'⟩) hm

/-! ### tests -/
/-- an expression whose value is a bool -/
theorem wT_val {e : Expr} (w : wE X e τ h fun d h1 => ∃ c, d = .bl c ∧ QT c h1) (he : ∀ whole, isTrue e X.env whole = (do let v ← whole; standAt e.pos; holding [v] (truthy v)) := by intro _; rfl) : wT X e τ h QT := fun pins s σ H I r q =>
  isTrue_plain (thn (w pins s σ H I r q) fun v s1 ⟨x, H1, d, h1, I1, r1, t1, n1, b1, c, e, z⟩ => by
    subst e
    cases n1
    cases r1
    exact wpAny_truthy_bool ⟨H1, h1, I1, t1, b1, z⟩) (he _)
/-- truth of a value -/
def truD (d : D) (h : HD) (k : Bool → Prop) : Prop :=
  match d with
  | .bl c => k c
  | .non => k false
  | .int i => k (i != 0)
  | .str x => x.length ≤ sizeLine ∧ k ((x.length : Int) != 0)
  | .tup ds => k (!ds.isEmpty)
  | .fz ds => k (!ds.isEmpty)
  | .ref a => ∃ ds, h a = some (.lst ds) ∧ k (!ds.isEmpty)
  | _ => False
theorem isEmpty_dn {K : PySem.W.Frag} {H : Hp} {xs : List V} {ds : List D} (n : DnA K H xs ds) : xs.isEmpty = ds.isEmpty := by
  cases n <;> rfl
theorem truD_ok {K : PySem.W.Frag} {H : Hp} {v : V} {d : D} {k : Bool → Prop} (n : Dn K H v d) (b : HR K H h) (z : truD d h k) : ∃ c, TruV K v H c ∧ k c := by
  unfold truD at z
  split at z
  · cases n; exact ⟨_, rfl, z⟩
  · cases n; exact ⟨_, rfl, z⟩
  · cases n; exact ⟨_, rfl, z⟩
  · cases n; exact ⟨_, ⟨z.1, rfl⟩, z.2⟩
  · cases n with
    | tup h1 h2 => exact ⟨_, .inr (.inl ⟨_, h1, rfl⟩), by rw [isEmpty_dn h2]; exact z⟩
  · cases n with
    | fz h1 h2 => exact ⟨_, .inl ⟨_, h1.sq, rfl⟩, by rw [isEmpty_dn h2]; exact z⟩
  · cases n
    obtain ⟨ds, e, z⟩ := z
    obtain ⟨xs, e2, n2⟩ := b _ _ e
    exact ⟨_, .inl ⟨_, .of e2, rfl⟩, by rw [isEmpty_dn n2]; exact z⟩
  · exact z.elim
theorem wT_tru {e : Expr} (w : wE X e τ h fun d h1 => truD d h1 fun c => QT c h1) (he : ∀ whole, isTrue e X.env whole = (do let v ← whole; standAt e.pos; holding [v] (truthy v)) := by intro _; rfl) : wT X e τ h QT :=
  wT_of (pt_truth pe_tE he) fun σ H r b => ⟨τ, h, _, r, b, w, fun v H1 ⟨d, h1, t1, n1, b1, z⟩ => by
    obtain ⟨c, k1, k2⟩ := truD_ok n1 b1 z
    exact ⟨c, k1, h1, t1, b1, k2⟩⟩
theorem wW.wt {e : Expr} (w : wW X e τ h QT) : wT X e τ h QT := w _
theorem wW_and1 {a : Expr} (w : wT X a τ h QT) : wW X (.BoolOp .And [a] pos) τ h QT := fun wh pins s σ H I r b =>
  isTrue_and (thn (w pins s σ H I r b) fun c s1 e => by
    cases c with
    | true => exact isTrue_and_nil e
    | false => exact e)
theorem wW_or1 {a : Expr} (w : wT X a τ h QT) : wW X (.BoolOp .Or [a] pos) τ h QT := fun wh pins s σ H I r b =>
  isTrue_or (thn (w pins s σ H I r b) fun c s1 e => by
    cases c with
    | false => exact isTrue_or_nil e
    | true => exact e)
theorem wW_and {a b : Expr} {rest : List Expr} (w : wT X a τ h fun c h1 => (c = true → wW X (.BoolOp .And (b :: rest) pos) τ h1 QT) ∧ (c = false → QT false h1)) : wW X (.BoolOp .And (a :: b :: rest) pos) τ h QT := fun wh pins s σ H I r q =>
  isTrue_and (thn (w pins s σ H I r q) fun c s1 ⟨H1, h1, I1, t1, b1, z⟩ => by
    cases c with
    | true => exact thn (z.1 rfl wh pins s1 σ H1 I1 (r.mono t1) b1) fun c2 s2 ⟨H2, h2, I2, t2, b2, z2⟩ => ⟨H2, h2, I2, t1.trans t2, b2, z2⟩
    | false => exact ⟨H1, h1, I1, t1, b1, z.2 rfl⟩)
theorem wW_or {a b : Expr} {rest : List Expr} (w : wT X a τ h fun c h1 => (c = true → QT true h1) ∧ (c = false → wW X (.BoolOp .Or (b :: rest) pos) τ h1 QT)) : wW X (.BoolOp .Or (a :: b :: rest) pos) τ h QT := fun wh pins s σ H I r q =>
  isTrue_or (thn (w pins s σ H I r q) fun c s1 ⟨H1, h1, I1, t1, b1, z⟩ => by
    cases c with
    | false => exact thn (z.2 rfl wh pins s1 σ H1 I1 (r.mono t1) b1) fun c2 s2 ⟨H2, h2, I2, t2, b2, z2⟩ => ⟨H2, h2, I2, t1.trans t2, b2, z2⟩
    | true => exact ⟨H1, h1, I1, t1, b1, z.1 rfl⟩)
theorem wT_not {a : Expr} (w : wT X a τ h fun c h1 => QT (!c) h1) : wT X (.UnaryOp .Not a pos) τ h QT := fun pins s σ H I r b =>
  isTrue_not (thn (w pins s σ H I r b) fun c s1 ⟨H1, h1, I1, t1, b1, z⟩ => ⟨H1, h1, I1, t1, b1, z⟩)
/-! and, or, not, if as values: bools -/
theorem wE_one {op} {a : Expr} (w : wE X a τ h Q) : wE X (.BoolOp op [a] pos) τ h Q := fun pins s σ H I r b => BoolOp_one (w pins s σ H I r b)
theorem wE_and {a b : Expr} {rest : List Expr} (w : wE X a τ h fun d h1 => ∃ c, d = .bl c ∧ (c = true → wE X (.BoolOp .And (b :: rest) pos) τ h1 Q) ∧ (c = false → Q (.bl false) h1)) : wE X (.BoolOp .And (a :: b :: rest) pos) τ h Q := fun pins s σ H I r q =>
  BoolOp_and (thn (w pins s σ H I r q) fun v s1 ⟨x, H1, d, h1, I1, r1, t1, n1, b1, c, e, z⟩ => by
    subst e
    cases n1
    cases r1
    refine wpAny_truthy_bool ?_
    cases c with
    | true => exact thn (z.1 rfl pins s1 σ H1 I1 (r.mono t1) b1) fun c2 s2 ⟨v2, H2, d2, h2, I2, r2, t2, n2, b2, z2⟩ => ⟨v2, H2, d2, h2, I2, r2, t1.trans t2, n2, b2, z2⟩
    | false => exact ⟨.bl false, H1, _, h1, I1, rfl, t1, .bl _, b1, z.2 rfl⟩)
theorem wE_or {a b : Expr} {rest : List Expr} (w : wE X a τ h fun d h1 => ∃ c, d = .bl c ∧ (c = true → Q (.bl true) h1) ∧ (c = false → wE X (.BoolOp .Or (b :: rest) pos) τ h1 Q)) : wE X (.BoolOp .Or (a :: b :: rest) pos) τ h Q := fun pins s σ H I r q =>
  BoolOp_or (thn (w pins s σ H I r q) fun v s1 ⟨x, H1, d, h1, I1, r1, t1, n1, b1, c, e, z⟩ => by
    subst e
    cases n1
    cases r1
    refine wpAny_truthy_bool ?_
    cases c with
    | false => exact thn (z.2 rfl pins s1 σ H1 I1 (r.mono t1) b1) fun c2 s2 ⟨v2, H2, d2, h2, I2, r2, t2, n2, b2, z2⟩ => ⟨v2, H2, d2, h2, I2, r2, t1.trans t2, n2, b2, z2⟩
    | true => exact ⟨.bl true, H1, _, h1, I1, rfl, t1, .bl _, b1, z.1 rfl⟩)
theorem wE_not {a : Expr} (w : wE X a τ h fun d h1 => ∃ c, d = .bl c ∧ Q (.bl (!c)) h1) : wE X (.UnaryOp .Not a pos) τ h Q := fun pins s σ H I r q =>
  UnaryOp_ (thn (w pins s σ H I r q) fun v s1 ⟨x, H1, d, h1, I1, r1, t1, n1, b1, c, e, z⟩ => by
    subst e
    cases n1
    cases r1
    exact not_of (wpAny_truthy_bool ⟨.bl (!c), H1, _, h1, I1, rfl, t1, .bl _, b1, z⟩))
theorem wE_if {c a b : Expr} (w : wT X c τ h fun k h1 => (k = true → wE X a τ h1 Q) ∧ (k = false → wE X b τ h1 Q)) : wE X (.IfExp c a b pos) τ h Q := fun pins s σ H I r q =>
  wpAny_IfExp (thn (w pins s σ H I r q) fun k s1 ⟨H1, h1, I1, t1, b1, z⟩ => by
    cases k with
    | true => exact thn (z.1 rfl pins s1 σ H1 I1 (r.mono t1) b1) fun c2 s2 ⟨v2, H2, d2, h2, I2, r2, t2, n2, b2, z2⟩ => ⟨v2, H2, d2, h2, I2, r2, t1.trans t2, n2, b2, z2⟩
    | false => exact thn (z.2 rfl pins s1 σ H1 I1 (r.mono t1) b1) fun c2 s2 ⟨v2, H2, d2, h2, I2, r2, t2, n2, b2, z2⟩ => ⟨v2, H2, d2, h2, I2, r2, t1.trans t2, n2, b2, z2⟩)

/-! ### subscripts -/
def ixD (x y : D) (h : HD) (k : QD) : Prop :=
  match x, y with
  | .tup ds, .int i => ∃ d, atI ds i = some d ∧ k d h
  | .fz ds, .int i => ∃ d, atI ds i = some d ∧ k d h
  | .ref a, .int i => ∃ ds d, h a = some (.lst ds) ∧ atI ds i = some d ∧ k d h
  | .str z, .int i => ∃ c, z.length ≤ sizeLine ∧ atI z.cps.toList i = some c ∧ k (.str ⟨#[c]⟩) h
  | _, _ => False
theorem DnA.atI {K : PySem.W.Frag} {H : Hp} {xs : List V} {ds : List D} {i : Int} {d : D} (n : DnA K H xs ds) (e : atI ds i = some d) : ∃ v, L2.atI xs i = some v ∧ Dn K H v d := by
  unfold L2.atI at e ⊢
  rw [n.length]
  cases q : ixN ds.length i with
  | none => rw [q] at e; cases e
  | some j =>
    rw [q] at e
    exact n.get (show ds[j]? = some d from e)
theorem wE_ix {a b : Expr} (w : wE X a τ h fun x h1 => wE X b τ h1 fun y h2 => ixD x y h2 Q) (hs : PlainIx b := by exact fun _ _ => rfl) : wE X (.Subscript a b pos) τ h Q := fun pins s σ H I r q =>
  Subscript_ (two w I r q fun v u s2 x y dx dy H2 h2 I2 rx ry t n1 n2 q2 z => by
    have go : ∀ {r : R2}, IxR X r → r x y H2 (kE X H2 Q) → wpAny (model X.prog X.w) X.A (subscriptTail a b v u) (EPD X pins σ H Q) X.xe s2 := fun o k => thn (o a b pins s2 σ H2 _ _ v u _ I2 rx ry k (hs _ _)) fun _ _ => EPD.of t
    unfold ixD at z
    split at z
    · cases n2
      obtain ⟨d, e, z⟩ := z
      cases n1 with
      | tup g1 g2 =>
        obtain ⟨v', e', n'⟩ := g2.atI e
        exact go ix_tup ⟨_, _, _, v', rfl, rfl, g1, e', d, h2, TK.refl H2, n', q2, z⟩
    · cases n2
      obtain ⟨d, e, z⟩ := z
      cases n1 with
      | fz g1 g2 =>
        obtain ⟨v', e', n'⟩ := g2.atI e
        exact go ix_list ⟨_, _, _, v', rfl, rfl, g1.sq, e', d, h2, TK.refl H2, n', q2, z⟩
    · cases n1; cases n2
      obtain ⟨ds, d, e0, e, z⟩ := z
      obtain ⟨xs, g1, g2⟩ := q2 _ _ e0
      obtain ⟨v', e', n'⟩ := g2.atI e
      exact go ix_list ⟨_, _, _, v', rfl, rfl, .of g1, e', d, h2, TK.refl H2, n', q2, z⟩
    · cases n1; cases n2
      obtain ⟨c, e0, e, z⟩ := z
      exact go ix_str ⟨_, _, c, rfl, rfl, e0, e, _, h2, TK.refl H2, .str _, q2, z⟩
    · exact z.elim)
end
end Dv
/-! Rules: calls, statements, loops, defs. -/
namespace Dv
open PySem PySem.Spec PyProof.Rows L2

/-! ### promises -/
abbrev ED := Addr → List (Str × D) → HD → Prop
abbrev SpD := List D → HD → QD → ED → Prop
/-- an exception's own fields -/
def XdR (K : PySem.W.Frag) (H : Hp) (d : Option Addr) (fs : List (Str × D)) : Prop :=
  (d = none ∧ fs = []) ∨ (fs ≠ [] ∧ ∃ dd fv, d = some dd ∧ H dd = some (.xd fv) ∧ fv.map (·.1) = fs.map (·.1) ∧ DnA K H (fv.map (·.2)) (fs.map (·.2)))
def spOf (K : PySem.W.Frag) (sp : SpD) : Sp := fun vs H Q E => ∃ ds h QD' ED', DnA K H vs ds ∧ HR K H h ∧ sp ds h QD' ED' ∧
  (∀ v H' d h', TK H H' → Dn K H' v d → HR K H' h' → QD' d h' → Q v H') ∧
  ∀ C od fs H' h', TK H H' → XdR K H' od fs → HR K H' h' → ED' C fs h' → E (.ref C) od H'
/-- the wish about exceptions: by the exception's class and fields, the slots, the heap -/
abbrev WD := Addr → List (Str × D) → SD → HD → Prop
def wX (X : Cy) (W : WD) : WX := fun cls d σ H => ∃ C fs τ h, cls = .ref C ∧ XdR X.K H d fs ∧ SR X H σ τ ∧ HR X.K H h ∧ W C fs τ h
abbrev TakesD (X : Cy) (W : WD) : Prop := Takes X (wX X W)
/-- a def of the module: x its name, dd the defaults that fill up, lv its level, sp its promise -/
structure FnG (P : Program) (w : World) (K : PySem.W.Frag) (mg : Str → Option Value) (base : Heap) (x : Str) (dd : List D) (lv : Nat) (sp : SpD) : Prop where
  ex : ∃ (f : Addr) (fd : FuncData) (ps : List Str) (dvs : List V) (dss : List Value), mg x = some (.ref f) ∧ PySem.W.keepIn K (.ref f) = true ∧ FnOk P w K mg base (L2.CX P w) lv f fd ps (spOf K sp) ∧ Binds K fd ps dss ∧ Vals dvs dss ∧ ∀ H : Hp, DnA K H dvs dd
section
variable {X : Cy} {N G S : List Str} {τ : SD} {h : HD} {Q : QD} {QT : Bool → HD → Prop} {pos : Pos} {W : WD}
theorem wE_call {x : Str} {dd : List D} {lv : Nat} {sp : SpD} {e : Expr} {es : List Expr} {p : Pos} (F : FnG X.prog X.w X.K X.mg X.base x dd lv sp) (C : Cok X N G S) (hg : x ∈ G) (hr : Room lv X.A) (tk : TakesD X W)
    (w : wA X (e :: es) τ h fun ds h1 => sp (ds ++ dd) h1 Q fun c fs h' => W c fs τ h')
    (he : starEach (e :: es) X.env = (false, eval e X.env) :: starEach es X.env := by rfl) (hpl : (backTo pos (starEach es X.env)).any (·.1) = false := by rfl) :
    wE X (.Call (.Name x p) (e :: es) [] pos) τ h Q := by
  obtain ⟨f, fd, ps, dvs, dss, hm, hk, F, hb, hd, hdd⟩ := F.ex
  refine wE_of (pe_callSD (E := WE (wX X W)) F hr (C.gl x hg) hm hk hb hd (fun σ => passAt tk σ) pa_tA (C.db x (List.mem_append_right _ hg)).1 he hpl) fun σ H r b => ⟨τ, h, _, r, b, w, fun vs H1 ⟨ds, h1, t1, n1, b1, z⟩ => ?_⟩
  exact ⟨_, h1, _, _, n1.append (hdd H1), b1, z, fun v H' d h' t n b' q => ⟨d, h', t1.trans t, n, b', q⟩, fun C od fs H' h' t xd b' q => ⟨C, fs, τ, h', rfl, xd, r.mono (t1.trans t), b', q⟩⟩
theorem wE_call0 {x : Str} {dd : List D} {lv : Nat} {sp : SpD} {p : Pos} (F : FnG X.prog X.w X.K X.mg X.base x dd lv sp) (C : Cok X N G S) (hg : x ∈ G) (hr : Room lv X.A) (tk : TakesD X W)
    (w : sp dd h Q fun c fs h' => W c fs τ h') : wE X (.Call (.Name x p) [] [] pos) τ h Q := by
  obtain ⟨f, fd, ps, dvs, dss, hm, hk, F, hb, hd, hdd⟩ := F.ex
  intro pins s σ H I r b
  refine wpAny_Call_Name_kw (ld_glob I (C.gl x hg) hm ?_ (C.db x (List.mem_append_right _ hg)).1)
  refine PySem.W.callWith_K0 I.kIn hk ?_
  refine thn (run_fnSD (vs := []) (us := []) (E := WE (wX X W)) (Q := kE X H Q) F hr hb hd (passAt tk σ) I .nil ?_) fun u s' => EPD.of (TK.refl H)
  exact ⟨_, h, _, _, hdd H, b, w, fun v H' d h' t n b' q => ⟨d, h', t, n, b', q⟩, fun C od fs H' h' t xd b' q => ⟨C, fs, τ, h', rfl, xd, r.mono t, b', q⟩⟩

/-! ### built-ins -/
theorem wE_cb {x : Str} {id : String} {e : Expr} {es : List Expr} {p : Pos} {r : List V → Hp → VK → Prop} (hc : CallR X (.builtin id) r) (C : Cok X N G S) (hg : x ∈ G) (hm : X.mg x = none) (hv : bootBuiltins x = some (.builtin id))
    (w : wA X (e :: es) τ h fun ds h1 => ∀ H vs, DnA X.K H vs ds → HR X.K H h1 → r vs H (kE X H Q))
    (he : starEach (e :: es) X.env = (false, eval e X.env) :: starEach es X.env := by rfl) (hpl : (backTo pos (starEach es X.env)).any (·.1) = false := by rfl) : wE X (.Call (.Name x p) (e :: es) [] pos) τ h Q := by
  intro pins s σ H I r0 b
  refine wpAny_Call_Name_kw (ld_blt I (C.gl x hg) hm hv ?_ (C.db x (List.mem_append_right _ hg)).2.2 (C.db x (List.mem_append_right _ hg)).1)
  exact PyProof.Rows.callWith_builtin1 (thn (w pos pins s σ H I r0 b) fun us s1 ⟨vs, H1, ds, h1, I1, rv, t1, n1, b1, z⟩ => thn (hc pins s1 σ H1 vs us _ I1 rv (z H1 vs n1 b1)) fun _ _ => EPD.of t1) he hpl
theorem wE_ct {x : Str} {T : String} {e : Expr} {es : List Expr} {p : Pos} {r : List V → Hp → VK → Prop} (hc : CallR X (.type T) r) (C : Cok X N G S) (hg : x ∈ G) (hm : X.mg x = none) (hv : bootBuiltins x = some (.type T))
    (w : wA X (e :: es) τ h fun ds h1 => ∀ H vs, DnA X.K H vs ds → HR X.K H h1 → r vs H (kE X H Q))
    (he : starEach (e :: es) X.env = (false, eval e X.env) :: starEach es X.env := by rfl) (hpl : (backTo pos (starEach es X.env)).any (·.1) = false := by rfl) : wE X (.Call (.Name x p) (e :: es) [] pos) τ h Q := by
  intro pins s σ H I r0 b
  refine wpAny_Call_Name_kw (ld_blt I (C.gl x hg) hm hv ?_ (C.db x (List.mem_append_right _ hg)).2.2 (C.db x (List.mem_append_right _ hg)).1)
  exact PyProof.Rows.callWith_type1 (thn (w pos pins s σ H I r0 b) fun us s1 ⟨vs, H1, ds, h1, I1, rv, t1, n1, b1, z⟩ => thn (hc pins s1 σ H1 vs us _ I1 rv (z H1 vs n1 b1)) fun _ _ => EPD.of t1) he hpl
def lenD (d : D) (h : HD) (k : Int → Prop) : Prop :=
  match d with
  | .tup ds => k ds.length
  | .fz ds => k ds.length
  | .ref a => ∃ ds, h a = some (.lst ds) ∧ k ds.length
  | .str z => z.length ≤ sizeLine ∧ k z.length
  | _ => False
theorem wE_len {e : Expr} {p : Pos} (C : Cok X N G S) (hg : ("len" : Str) ∈ G) (w : wE X e τ h fun d h1 => lenD d h1 fun n => Q (.int n) h1)
    (he : starEach [e] X.env = (false, eval e X.env) :: starEach [] X.env := by rfl) : wE X (.Call (.Name "len" p) [e] [] pos) τ h Q := by
  refine wE_cb call_len C hg (C.bl _ (by unfold BL; repeat (first | exact List.Mem.head _ | apply List.Mem.tail))) PySem.boot_len (wA_cons (w.imp fun d h1 z => wA_nil fun H vs n b => ?_) he) he rfl
  cases n with
  | cons n1 n2 =>
    cases n2
    unfold lenD at z
    split at z
    · cases n1 with
      | tup g1 g2 => exact ⟨_, _, rfl, .inr ⟨_, g1, rfl⟩, _, h1, TK.refl H, .int _, b, by rw [g2.length]; exact z⟩
    · cases n1 with
      | fz g1 g2 => exact ⟨_, _, rfl, .inl ⟨_, g1.sq, rfl⟩, _, h1, TK.refl H, .int _, b, by rw [g2.length]; exact z⟩
    · cases n1
      obtain ⟨ds, e0, z⟩ := z
      obtain ⟨xs, g1, g2⟩ := b _ _ e0
      exact ⟨_, _, rfl, .inl ⟨_, .of g1, rfl⟩, _, h1, TK.refl H, .int _, b, by rw [g2.length]; exact z⟩
    · cases n1
      exact ⟨_, _, rfl, ⟨z.1, rfl⟩, _, h1, TK.refl H, .int _, b, z.2⟩
    · exact z.elim
theorem wE_abs {e : Expr} {p : Pos} (C : Cok X N G S) (hg : ("abs" : Str) ∈ G) (w : wE X e τ h fun d h1 => ∃ i, d = .int i ∧ Q (.int (if i < 0 then -i else i)) h1)
    (he : starEach [e] X.env = (false, eval e X.env) :: starEach [] X.env := by rfl) : wE X (.Call (.Name "abs" p) [e] [] pos) τ h Q := by
  refine wE_cb call_abs C hg (C.bl _ (by unfold BL; repeat (first | exact List.Mem.head _ | apply List.Mem.tail))) (by decide +kernel) (wA_cons (w.imp fun d h1 z => wA_nil fun H vs n b => ?_) he) he rfl
  obtain ⟨i, rfl, z⟩ := z
  cases n with
  | cons n1 n2 =>
    cases n2
    cases n1
    exact ⟨_, rfl, _, h1, TK.refl H, .int _, b, z⟩
theorem wE_toint {e : Expr} {p : Pos} (C : Cok X N G S) (hg : ("int" : Str) ∈ G) (w : wE X e τ h fun d h1 => (∃ i, d = .int i ∧ Q (.int i) h1) ∨ ∃ k, d = .bl k ∧ Q (.int (if k = true then 1 else 0)) h1)
    (he : starEach [e] X.env = (false, eval e X.env) :: starEach [] X.env := by rfl) : wE X (.Call (.Name "int" p) [e] [] pos) τ h Q := by
  refine wE_ct call_int1 C hg (C.bl _ (by unfold BL; repeat (first | exact List.Mem.head _ | apply List.Mem.tail))) (by decide +kernel) (wA_cons (w.imp fun d h1 z => wA_nil fun H vs n b => ?_) he) he rfl
  cases n with
  | cons n1 n2 =>
    cases n2
    rcases z with ⟨i, rfl, z⟩ | ⟨k, rfl, z⟩
    · cases n1
      exact .inl ⟨_, rfl, _, h1, TK.refl H, .int _, b, z⟩
    · cases n1
      exact .inr ⟨_, rfl, _, h1, TK.refl H, .int _, b, z⟩
/-- the ints of a list -/
def intsD (d : D) (h : HD) (ns : List Int) : Prop := d = .fz (ns.map D.int) ∨ ∃ a, d = .ref a ∧ h a = some (.lst (ns.map D.int))
theorem intsD_ok {K : PySem.W.Frag} {H : Hp} {v : V} {d : D} {ns : List Int} (n : Dn K H v d) (b : HR K H h) (z : intsD d h ns) : ∃ a, v = .ref a ∧ SqL K H a (ns.map V.int) := by
  rcases z with rfl | ⟨a, rfl, e⟩
  · cases n with
    | fz g1 g2 =>
      have e := g2.ints
      subst e
      exact ⟨_, rfl, g1.sq⟩
  · cases n
    obtain ⟨xs, g1, g2⟩ := b _ _ e
    have e := g2.ints
    subst e
    exact ⟨_, rfl, .of g1⟩
theorem wE_sum {e : Expr} {p : Pos} (C : Cok X N G S) (hg : ("sum" : Str) ∈ G) (hc : X.calm = true) (w : wE X e τ h fun d h1 => ∃ ns, intsD d h1 ns ∧ Q (.int ns.sum) h1)
    (he : starEach [e] X.env = (false, eval e X.env) :: starEach [] X.env := by rfl) : wE X (.Call (.Name "sum" p) [e] [] pos) τ h Q := by
  refine wE_cb (cr_sum hc) C hg (C.bl _ (by unfold BL; repeat (first | exact List.Mem.head _ | apply List.Mem.tail))) (by decide +kernel) (wA_cons (w.imp fun d h1 z => wA_nil fun H vs n b => ?_) he) he rfl
  obtain ⟨ns, z1, z⟩ := z
  cases n with
  | cons n1 n2 =>
    cases n2
    obtain ⟨a, rfl, hs⟩ := intsD_ok n1 b z1
    exact ⟨_, ns, rfl, hs, _, h1, TK.refl H, .int _, b, z⟩
/-- isinstance of data against a built-in class -/
def tyD : D → Option String
  | .non => some "NoneType" | .bl _ => some "bool" | .int _ => some "int" | .str _ => some "str" | .tup _ => some "tuple" | .fz _ => some "list" | _ => none
theorem tyD_ok {K : PySem.W.Frag} {H : Hp} {v : V} {d : D} {t : String} (n : Dn K H v d) (e : tyD d = some t) : TyX K H v (.type t) := by
  cases n with
  | non => cases e; exact .base .non
  | bl b => cases e; exact .base (.bl _)
  | int i => cases e; exact .base (.int _)
  | str x => cases e; exact .base (.str _)
  | ty n => cases e
  | ref a => cases e
  | tup h1 h2 =>
    cases e
    rcases h1 with (h1 | ⟨o, h1⟩) | ⟨o, its, n, h1, h3, _⟩
    · exact .base (.tup h1)
    · exact .fTuple h1
    · exact .kTuple h1 h3
  | fz h1 h2 =>
    cases e
    rcases h1 with ⟨o, h1⟩ | ⟨o, its, n, h1, h3, _⟩
    · exact .base (.frz h1)
    · exact .kList h1 h3
theorem wE_isi {e e2 : Expr} {p : Pos} (C : Cok X N G S) (hg : ("isinstance" : Str) ∈ G) 
    (w : wE X e τ h fun d h1 => wE X e2 τ h1 fun c h2 => ∃ t n b, c = .ty n ∧ tyD d = some t ∧ kitB t n = some b ∧ Q (.bl b) h2)
    (he : starEach [e, e2] X.env = (false, eval e X.env) :: starEach [e2] X.env := by rfl) (he2 : starEach [e2] X.env = (false, eval e2 X.env) :: starEach [] X.env := by rfl) (hpl : (backTo pos (starEach [e2] X.env)).any (·.1) = false := by rfl) :
    wE X (.Call (.Name "isinstance" p) [e, e2] [] pos) τ h Q := by
  refine wE_cb call_isi C hg (C.bl _ (by unfold BL; repeat (first | exact List.Mem.head _ | apply List.Mem.tail))) (by decide +kernel) (wA_cons (w.imp fun d h1 w1 => wA_cons (w1.imp fun c h2 z => wA_nil fun H vs n b => ?_) he2) he) he hpl
  obtain ⟨t, m, k, rfl, e1, e3, z⟩ := z
  cases n with
  | cons n1 n2 =>
    cases n2 with
    | cons n2 n3 =>
      cases n3
      cases n2
      exact ⟨_, _, _, _, k, rfl, .ty m, tyD_ok n1 e1, kit_ty e3, _, h2, TK.refl H, .bl _, b, z⟩
/-- math.gcd, a name of the module -/
theorem wE_gcd {x : Str} {e e2 : Expr} {p : Pos} (hm : X.mg x = some (.builtin "math.gcd")) (C : Cok X N G S) (hg : x ∈ G)
    (w : wE X e τ h fun d h1 => wE X e2 τ h1 fun c h2 => ∃ i j, d = .int i ∧ c = .int j ∧ Q (.int ((Nat.gcd i.natAbs j.natAbs : Nat) : Int)) h2)
    (he : starEach [e, e2] X.env = (false, eval e X.env) :: starEach [e2] X.env := by rfl) (he2 : starEach [e2] X.env = (false, eval e2 X.env) :: starEach [] X.env := by rfl) (hpl : (backTo pos (starEach [e2] X.env)).any (·.1) = false := by rfl) :
    wE X (.Call (.Name x p) [e, e2] [] pos) τ h Q := by
  intro pins s σ H I r0 b
  refine wpAny_Call_Name_kw (ld_glob I (C.gl x hg) hm ?_ (C.db x (List.mem_append_right _ hg)).1)
  have w' : wA X [e, e2] τ h fun ds h1 => ∃ i j, ds = [.int i, .int j] ∧ Q (.int ((Nat.gcd i.natAbs j.natAbs : Nat) : Int)) h1 :=
    wA_cons (w.imp fun d h1 w1 => wA_cons (w1.imp fun c h2 ⟨i, j, e1, e2, z⟩ => wA_nil ⟨i, j, by rw [e1, e2], z⟩) he2) he
  refine PyProof.Rows.callWith_builtin1 (thn (w' pos pins s σ H I r0 b) fun us s1 ⟨vs, H1, ds, h1, I1, rv, t1, n1, b1, i, j, ed, z⟩ => ?_) he hpl
  subst ed
  cases n1 with
  | cons n1 n2 =>
    cases n2 with
    | cons n2 n3 =>
      cases n3
      cases n1
      cases n2
      exact thn (cr_gcd pins s1 σ H1 _ us _ I1 rv ⟨_, _, rfl, _, h1, TK.refl H1, .int _, b1, z⟩) fun _ _ => EPD.of t1

/-! ### slices -/
def wO (X : Cy) (e : Option Expr) (τ : SD) (h : HD) (Q : Option Int → HD → Prop) : Prop :=
  match e with
  | none => Q none h
  | some e => wE X e τ h fun d h1 => ∃ i, d = .int i ∧ Q (some i) h1
def cutD (ds : List D) (lo hi : Option Int) : List D := (ds.drop (HT.sIx ds.length 0 lo)).take (HT.sIx ds.length ds.length hi - HT.sIx ds.length 0 lo)
theorem cut_dn {K : PySem.W.Frag} {H : Hp} {xs : List V} {ds : List D} (n : DnA K H xs ds) (lo hi : Option Int) : DnA K H (cutV xs lo hi) (cutD ds lo hi) := by
  unfold cutV cutD
  rw [n.length]
  exact (n.drop _).take _
def tOD (X : Cy) (e : Option Expr) : TO := fun σ H Q => ∃ τ h QD, SR X H σ τ ∧ HR X.K H h ∧ wO X e τ h QD ∧ ∀ o H' h', TK H H' → HR X.K H' h' → QD o h' → Q o H'
theorem po_tO {e : Option Expr} : PO X e (tOD X e) := by
  cases e with
  | none =>
    refine ⟨fun pins s σ H Q I ⟨τ, h, QD, a, b, c, k⟩ => ?_⟩
    exact po_none.run pins s σ H Q I (k none H h (TK.refl H) b c)
  | some e =>
    refine ⟨fun pins s σ H Q I ⟨τ, h, QD, a, b, c, k⟩ => ?_⟩
    refine (po_some pe_tE).run pins s σ H Q I ⟨τ, h, _, a, b, c, fun v H' ⟨d, h', t, n, b', i, e1, q⟩ => ?_⟩
    subst e1
    cases n
    exact ⟨i, rfl, k (some i) H' h' t b' q⟩
/-- a slice of a list: a new list -/
theorem wE_cutL {e : Expr} {lo hi : Option Expr} {p2 : Pos} (w : wE X e τ h fun d h1 => wO X lo τ h1 fun l h2 => wO X hi τ h2 fun u h3 =>
    ∃ ds, (d = .fz ds ∨ ∃ a, d = .ref a ∧ h3 a = some (.lst ds)) ∧ ∀ p, h3 p = none → Q (.ref p) (hset h3 p (.lst (cutD ds l u)))) : wE X (.Subscript e (.Slice lo hi none p2) pos) τ h Q := by
  refine wE_of (pe_slice sl_list pe_tE po_tO po_tO) fun σ H r b => ⟨τ, h, _, r, b, w, fun v H1 ⟨d, h1, t1, n1, b1, w1⟩ => ⟨τ, h1, _, r.mono t1, b1, w1, fun l H2 h2 t2 b2 w2 => ⟨τ, h2, _, r.mono (t1.trans t2), b2, w2, fun u H3 h3 t3 b3 z => ?_⟩⟩⟩
  obtain ⟨ds, z1, z⟩ := z
  have n3 := n1.mono (t2.trans t3)
  have t := (t1.trans t2).trans t3
  rcases z1 with rfl | ⟨a, rfl, e1⟩
  · cases n3 with
    | fz g1 g2 => exact ⟨_, _, rfl, g1.sq, fun p hp => ⟨_, _, t.trans (.upd_new hp), .ref p, b3.new_lst hp (cut_dn g2 l u), z p (b3.free hp)⟩⟩
  · cases n3
    obtain ⟨xs, g1, g2⟩ := b3 _ _ e1
    exact ⟨_, _, rfl, .of g1, fun p hp => ⟨_, _, t.trans (.upd_new hp), .ref p, b3.new_lst hp (cut_dn g2 l u), z p (b3.free hp)⟩⟩

/-! ### statements -/
variable {D : KD}
theorem wB_nil (q : D.nx τ h) : wB X [] τ h D := fun pins s σ H I r b => wpAny_execs_nil ⟨σ, H, τ, h, I, TK.refl H, r, b, q⟩
theorem wB_cons {st : Stmt} {rest : List Stmt} (w : wS X st τ h { D with nx := fun τ' h' => wB X rest τ' h' D }) : wB X (st :: rest) τ h D := by
  intro pins s σ H I r b
  refine wpAny_execs_cons (thn (w pins s σ H I r b) fun f s1 q => ?_)
  cases f with
  | next =>
    obtain ⟨σ', H', τ', h', I', t', r', b', q⟩ := q
    refine thn (q pins s1 σ' H' I' r' b') fun f2 s2 q2 => ?_
    cases f2 with
    | next =>
      obtain ⟨σ2, H2, τ2, h2, I2, t2, r2, b2, q2⟩ := q2
      exact ⟨σ2, H2, τ2, h2, I2, t'.trans t2, r2, b2, q2⟩
    | brk =>
      obtain ⟨σ2, H2, τ2, h2, I2, t2, r2, b2, q2⟩ := q2
      exact ⟨σ2, H2, τ2, h2, I2, t'.trans t2, r2, b2, q2⟩
    | cont =>
      obtain ⟨σ2, H2, τ2, h2, I2, t2, r2, b2, q2⟩ := q2
      exact ⟨σ2, H2, τ2, h2, I2, t'.trans t2, r2, b2, q2⟩
    | ret v =>
      obtain ⟨v2, σ2, H2, d2, h2, I2, rv, t2, n2, b2, q2⟩ := q2
      exact ⟨v2, σ2, H2, d2, h2, I2, rv, t'.trans t2, n2, b2, q2⟩
  | ret v => exact q
  | brk => exact q
  | cont => exact q
theorem wB_one {st : Stmt} (w : wS X st τ h D) : wB X [st] τ h D := wB_cons fun pins s σ H I r b => thn (w pins s σ H I r b) fun f s1 q => by
  cases f with
  | next =>
    obtain ⟨σ', H', τ', h', I', t', r', b', q⟩ := q
    exact ⟨σ', H', τ', h', I', t', r', b', wB_nil q⟩
  | ret v => exact q
  | brk => exact q
  | cont => exact q
theorem wS_pass (q : D.nx τ h) : wS X (.Pass pos) τ h D := wS_of ps_pass fun σ H r b => ⟨τ, h, TK.refl H, r, b, q⟩
theorem wS_break (q : D.bk τ h) : wS X (.Break pos) τ h D := wS_of ps_break fun σ H r b => ⟨τ, h, TK.refl H, r, b, q⟩
theorem wS_cont (q : D.ct τ h) : wS X (.Continue pos) τ h D := wS_of ps_continue fun σ H r b => ⟨τ, h, TK.refl H, r, b, q⟩
theorem wS_set {x : Str} {e : Expr} {p : Pos} {f : Dv.D → SD} (C : Cok X N G S) (hx : x ∈ S) (hp : ∀ d, Put N τ x d (f d)) (w : wE X e τ h fun d h1 => D.nx (f d) h1) (hs : swapsWith e (some (.Name x p)) pos.line X.env = pure false := by rfl) : wS X (.Assign [.Name x p] e pos) τ h D := by
  obtain ⟨i, hi, _⟩ := (hp .non).ix
  refine wS_of (ps_set (i := i) C.nd (by rw [C.hN]; exact hi) (C.sto x hx).1 pe_tE hs (C.sto x hx).2) fun σ H r b => ⟨τ, h, _, r, b, w, fun v H1 ⟨d, h1, t1, n1, b1, z⟩ => ?_⟩
  obtain ⟨j, hj, ej⟩ := (hp d).ix
  have e1 : i = j := nodup_ix (by rw [← C.hN]; exact C.nd) hi hj
  subst e1
  refine ⟨f d, h1, t1, ?_, b1, z⟩
  rw [ej]
  exact (r.mono t1).set n1 i
theorem wS_expr {e : Expr} (w : wE X e τ h fun _ h1 => D.nx τ h1) (hs : swapsWith e none pos.line X.env = pure false := by rfl) : wS X (.Expr e pos) τ h D :=
  wS_of (ps_expr pe_tE hs) fun σ H r b => ⟨τ, h, _, r, b, w, fun v H1 ⟨d, h1, t1, n1, b1, z⟩ => ⟨τ, h1, t1, r.mono t1, b1, z⟩⟩
theorem wS_ret {e : Expr} (w : wE X e τ h D.rt) : wS X (.Return (some e) pos) τ h D := wS_of (ps_ret pe_tE) fun σ H r b => ⟨τ, h, _, r, b, w, fun v H1 z => z⟩
theorem wS_retN (q : D.rt .non h) : wS X (.Return none pos) τ h D := wS_of ps_retN fun σ H r b => ⟨_, h, TK.refl H, .non, b, q⟩
theorem wS_if {c : Expr} {a b : List Stmt} (w : wT X c τ h fun k h1 => (k = true → wB X a τ h1 D) ∧ (k = false → wB X b τ h1 D)) : wS X (.If c a b pos) τ h D := by
  refine wS_of (ps_if pt_tT pss_tB pss_tB) fun σ H r b => ⟨τ, h, _, r, b, w, fun k H1 ⟨h1, t1, b1, z1, z2⟩ => ?_⟩
  cases k with
  | true => exact ⟨τ, h1, D, r.mono t1, b1, z1 rfl, fun _ _ => kN.trans t1, fun _ _ => kE.trans t1, fun _ _ => kN.trans t1, fun _ _ => kN.trans t1⟩
  | false => exact ⟨τ, h1, D, r.mono t1, b1, z2 rfl, fun _ _ => kN.trans t1, fun _ _ => kE.trans t1, fun _ _ => kN.trans t1, fun _ _ => kN.trans t1⟩
theorem wS_while {c : Expr} {body : List Stmt} (C : Cok X N G S) (Wv : Nat → SD → HD → Prop) (m0 : Nat) (h0 : Wv m0 τ h)
    (hs : ∀ m τ' h', Wv m τ' h' → wT X c τ' h' fun k h1 => (k = true → wB X body τ' h1 { nx := fun τ2 h2 => ∃ m', m' < m ∧ Wv m' τ2 h2, ct := fun τ2 h2 => ∃ m', m' < m ∧ Wv m' τ2 h2, bk := D.nx, rt := D.rt }) ∧ (k = false → D.nx τ' h1)) : wS X (.While c body [] pos) τ h D := by
  refine wS_of (ps_while C.po pt_tT pss_tB) fun σ H r b => ?_
  refine ⟨fun m σ' H' => kN X H (Wv m) σ' H', ⟨m0, τ, h, TK.refl H, r, b, h0⟩, ?_⟩
  rintro m σ1 H1 ⟨τ1, h1, t1, r1, b1, w1⟩
  refine ⟨τ1, h1, _, r1, b1, hs m τ1 h1 w1, fun k H2 ⟨h2, t2, b2, z1, z2⟩ => ?_⟩
  have t12 := t1.trans t2
  cases k with
  | true =>
    refine ⟨kN X H fun τ2 h2 => ∃ m', m' < m ∧ Wv m' τ2 h2, ?_, τ1, h2, _, r1.mono t2, b2, z1 rfl, fun _ _ => kN.trans t12, fun _ _ => kE.trans t12, fun _ _ => kN.trans t12, fun _ _ => kN.trans t12⟩
    rintro σ3 H3 ⟨τ3, h3, t3, r3, b3, m', hm, q⟩
    exact ⟨m', hm, τ3, h3, t3, r3, b3, q⟩
  | false => exact ⟨τ1, h2, t12, r1.mono t2, b2, z2 rfl⟩

/-! ### targets, for -/
def wG (X : Cy) (tg : Expr) (d : Dv.D) (τ : SD) (h : HD) (Q : SD → HD → Prop) : Prop :=
  ∀ (pins : List (Addr × Obj)) (s : Shared) (σ : L2.St) (H : Hp) (v : V) (u : Value), Inv X pins σ H s → RelV v u → Dn X.K H v d → SR X H σ τ → HR X.K H h →
    wpAny (model X.prog X.w) X.A (assign tg X.env u) (fun _ s' => ∃ σ' H', Inv X pins σ' H' s' ∧ kN X H Q σ' H') X.xe s
def tGD (X : Cy) (tg : Expr) : TG := fun v σ H Q => ∃ d τ h QD, Dn X.K H v d ∧ SR X H σ τ ∧ HR X.K H h ∧ wG X tg d τ h QD ∧ ∀ σ' H', kN X H QD σ' H' → Q σ' H'
theorem pg_tG {tg : Expr} : PG X tg (tGD X tg) := ⟨fun pins s σ H v u Q I rv ⟨d, τ, h, QD, n, r, b, w, k⟩ => thn (w pins s σ H v u I rv n r b) fun _ s' ⟨σ', H', I', z⟩ => ⟨σ', H', I', k σ' H' z⟩⟩
theorem wG_name {x : Str} {p : Pos} {d : Dv.D} {τ' : SD} {Q : SD → HD → Prop} (C : Cok X N G S) (hx : x ∈ S) (hp : Put N τ x d τ') (q : Q τ' h) : wG X (.Name x p) d τ h Q := by
  obtain ⟨i, hi, e⟩ := hp.ix
  intro pins s σ H v u I rv n r b
  refine thn ((pg_name (i := i) C.nd (by rw [C.hN]; exact hi) (C.sto x hx).1 (C.sto x hx).2).run pins s σ H v u (kN X H Q) I rv ?_) fun _ s' z => z
  refine ⟨τ', h, TK.refl H, ?_, b, q⟩
  rw [e]
  exact r.set n i
def wGs (X : Cy) (ts : List Expr) (ds : List Dv.D) (τ : SD) (h : HD) (Q : SD → HD → Prop) : Prop :=
  ∀ (pins : List (Addr × Obj)) (s : Shared) (σ : L2.St) (H : Hp) (vs : List V) (us : List Value), Inv X pins σ H s → Vals vs us → DnA X.K H vs ds → SR X H σ τ → HR X.K H h →
    wpAny (model X.prog X.w) X.A (assignInOrder ((assignEach ts X.env).map (·.2)) us) (fun _ s' => ∃ σ' H', Inv X pins σ' H' s' ∧ kN X H Q σ' H') X.xe s
theorem wGs_nil {Q : SD → HD → Prop} (q : Q τ h) : wGs X [] [] τ h Q := fun pins s σ H vs us I rv n r b => by
  cases n
  cases rv
  exact assignInOrder_nil ⟨σ, H, I, τ, h, TK.refl H, r, b, q⟩
theorem wGs_cons {e : Expr} {es : List Expr} {d : Dv.D} {ds : List Dv.D} {Q : SD → HD → Prop} (w : wG X e d τ h fun τ1 h1 => wGs X es ds τ1 h1 Q) (hs : (assignEach (e :: es) X.env).map (·.2) = assign e X.env :: (assignEach es X.env).map (·.2) := by rfl) : wGs X (e :: es) (d :: ds) τ h Q := fun pins s σ H vs us I rv n r b => by
  cases n with
  | cons n1 n2 =>
    cases rv with
    | cons r1 r2 =>
      rw [hs]
      refine assignInOrder_cons (thn (w pins s σ H _ _ I r1 n1 r b) fun _ s1 ⟨σ1, H1, I1, τ1, h1, t1, q1, b1, z⟩ => ?_)
      exact thn (z pins s1 σ1 H1 _ _ I1 r2 (n2.mono t1) q1 b1) fun _ s2 ⟨σ2, H2, I2, z2⟩ => ⟨σ2, H2, I2, kN.trans t1 z2⟩
/-- (a, b, ..) = a tuple -/
theorem wG_tup {es : List Expr} {k : Nat} {ds : List Dv.D} {n : Nat} {Q : SD → HD → Prop} (hc : X.calm = true) (w : wGs X es ds τ h Q) (hl : ds.length = n)
    (hn : (assignEach es X.env).length = n := by rfl) (hst : (assignEach es X.env).findIdx? (·.1) = none := by rfl) : wG X (.Tuple es k pos) (.tup ds) τ h Q := fun pins s σ H v u I rv n1 r b => by
  cases n1 with
  | tup g1 g2 =>
    refine (pg_tup (t := fun vs σ H Q' => ∃ ds τ h QD, DnA X.K H vs ds ∧ SR X H σ τ ∧ HR X.K H h ∧ wGs X es ds τ h QD ∧ ∀ σ' H', kN X H QD σ' H' → Q' σ' H') (n := n) hc
      ⟨fun pins s σ H vs us Q' I rv ⟨ds, τ, h, QD, n, r, b, w, k⟩ => thn (w pins s σ H vs us I rv n r b) fun _ s' ⟨σ', H', I', z⟩ => ⟨σ', H', I', k σ' H' z⟩⟩ hn hst).run pins s σ H _ u _ I rv ?_
    exact ⟨_, _, rfl, g1, by rw [g2.length]; exact hl, ds, τ, h, Q, g2, r, b, w, fun σ' H' z => z⟩
theorem wS_asg {tg e : Expr} (w : wE X e τ h fun d h1 => wG X tg d τ h1 D.nx) (hs : swapsWithSole [tg] e pos.line X.env = pure false := by rfl) (hw : swappedStores [tg] e X.env = pure none := by rfl)
    (h1 : (assignEach [tg] X.env).map (·.2) = [assign tg X.env] := by rfl) : wS X (.Assign [tg] e pos) τ h D :=
  wS_of (ps_asg pe_tE pg_tG hs hw h1) fun σ H r b => ⟨τ, h, _, r, b, w, fun v H1 ⟨d, h1, t1, n1, b1, z⟩ => ⟨d, τ, h1, _, n1, r.mono t1, b1, z, fun σ' H' => kN.trans t1⟩⟩
/-- xs[i] = v -/
theorem wG_ix {o i : Expr} {d : Dv.D} {Q : SD → HD → Prop} (w : wE X o τ h fun x h1 => wE X i τ h1 fun y h2 => ∃ a k ds j, x = .ref a ∧ y = .int k ∧ h2 a = some (.lst ds) ∧ ixN ds.length k = some j ∧ Q τ (hset h2 a (.lst (ds.set j d))))
    (ha : ∀ v, assign (.Subscript o i pos) X.env v = (do
      let ov ← holding [v] (eval o X.env)
      let iv ← holding [v, ov] (eval i X.env)
      standAt pos
      holding [v, ov, iv] (setItem ov iv v)
      release [v, ov, iv] []) := by intro _; rfl) : wG X (.Subscript o i pos) d τ h Q := fun pins s σ H v u I rv n r b => by
  refine thn ((pg_sub pe_tE pe_tE set_list ha).run pins s σ H v u (kN X H Q) I rv ?_) fun _ s' z => z
  refine ⟨τ, h, _, r, b, w, fun x H1 ⟨dx, h1, t1, n1, b1, w1⟩ => ⟨τ, h1, _, r.mono t1, b1, w1, fun y H2 ⟨dy, h2, t2, n2, b2, a, k, ds, j, e1, e2, e3, e4, q⟩ => ?_⟩⟩
  subst e1 e2
  cases n1
  cases n2
  obtain ⟨xs, g1, g2⟩ := b2 _ _ e3
  have t12 := t1.trans t2
  have tu : TK H2 (upd H2 a (.lst (xs.set j v))) := .upd_mut g1 (fun _ z => nomatch z) (fun _ _ z => nomatch z)
  exact ⟨_, xs, k, j, rfl, rfl, g1, by rw [g2.length]; exact e4, τ, _, t12.trans tu, r.mono (t12.trans tu), b2.set_lst g1 ((g2.set (n.mono t12) j)), q⟩

theorem wA_one {e : Expr} {R : QD} (w : wE X e τ h R) (hs : starEach [e] X.env = [(false, eval e X.env)] := by rfl) : wA X [e] τ h fun ds h1 => ∃ d, ds = [d] ∧ R d h1 := wA_cons (w.imp fun d h1 z => wA_nil ⟨d, rfl, z⟩) hs
/-- a loop over range(n) -/
theorem wS_forR {tg a : Expr} {body : List Stmt} {p1 p2 : Pos} (C : Cok X N G S) (hc : X.calm = true) (hg : ("range" : Str) ∈ G) 
    (w : wE X a τ h fun d h1 => ∃ n : Int, d = .int n ∧ (-(2 ^ 62) ≤ n ∧ n < 2 ^ 62) ∧ ∃ Pv : Nat → SD → HD → Prop, Pv 0 τ h1 ∧
      (∀ i τ' h', i < n.toNat → Pv i τ' h' → wG X tg (.int i) τ' h' fun τ2 h2 => wB X body τ2 h2 { nx := Pv (i + 1), ct := Pv (i + 1), bk := D.nx, rt := D.rt }) ∧ ∀ τ' h', Pv n.toNat τ' h' → D.nx τ' h')
    (hs : starEach [a] X.env = [(false, eval a X.env)] := by rfl) (hf : ∀ x, foldedSetIterable (.Call (.Name "range" p1) [a] [] p2) X.env x = pure x := by intro _; rfl) : wS X (.For tg (.Call (.Name "range" p1) [a] [] p2) body [] pos) τ h D := by
  refine wS_of (ps_for C.po hc (pi_range1 (C.gl _ hg) (C.bl _ (by unfold BL; repeat (first | exact List.Mem.head _ | apply List.Mem.tail))) pa_tA hs) pg_tG pss_tB hf) fun σ H r b => ?_
  refine ⟨τ, h, _, r, b, wA_one w hs, fun vs H1 ⟨ds, h1, t1, n1, b1, d, ed, n, e, ⟨hn1, hn2⟩, Pv, p0, st, en⟩ => ?_⟩
  subst ed
  subst e
  cases n1 with
  | cons n1 n2 =>
    cases n2
    cases n1
    refine ⟨n, rfl, hn1, hn2, for_range (lo := 0) (n := n.toNat) (fun i σ' H' => kN X H (Pv i) σ' H') ⟨τ, h1, t1, r.mono t1, b1, p0⟩ ?_ ?_⟩
    · rintro i σ2 H2 hi ⟨τ2, h2, t2, r2, b2, q2⟩
      have e0 : (0 : Int) + (i : Int) = (i : Int) := Int.zero_add _
      rw [e0]
      refine ⟨_, τ2, h2, _, .int _, r2, b2, st i τ2 h2 hi q2, fun σ3 H3 ⟨τ3, h3, t3, r3, b3, w3⟩ => ?_⟩
      have t23 := t2.trans t3
      exact ⟨τ3, h3, _, r3, b3, w3, fun _ _ => kN.trans t23, fun _ _ => kE.trans t23, fun _ _ => kN.trans t23, fun _ _ => kN.trans t23⟩
    · rintro σ2 H2 ⟨τ2, h2, t2, r2, b2, q2⟩
      exact ⟨τ2, h2, t2, r2, b2, en τ2 h2 q2⟩
/-- a loop over a tuple, over a list that never changes -/
theorem wS_forV {tg it : Expr} {body : List Stmt} (C : Cok X N G S) (hc : X.calm = true)
    (w : wE X it τ h fun d h1 => ∃ ds, d = .fz ds ∧ ∃ Pv : Nat → SD → HD → Prop, Pv 0 τ h1 ∧
      (∀ i x τ' h', ds[i]? = some x → Pv i τ' h' → wG X tg x τ' h' fun τ2 h2 => wB X body τ2 h2 { nx := Pv (i + 1), ct := Pv (i + 1), bk := D.nx, rt := D.rt }) ∧ ∀ τ' h', Pv ds.length τ' h' → D.nx τ' h')
    (hf : ∀ x, foldedSetIterable it X.env x = pure x := by intro _; rfl) : wS X (.For tg it body [] pos) τ h D := by
  refine wS_of (ps_for C.po hc (pi_list pe_tE) pg_tG pss_tB hf) fun σ H r b => ?_
  refine ⟨τ, h, _, r, b, w, fun v H1 ⟨d, h1, t1, n1, b1, ds, e, Pv, p0, st, en⟩ => ?_⟩
  subst e
  cases n1 with
  | fz g1 g2 =>
    refine ⟨_, rfl, ⟨_, g1.sq⟩, for_list (K := X.K) (fun i σ' H' => TK H1 H' ∧ kN X H (Pv i) σ' H') ⟨TK.refl H1, τ, h1, t1, r.mono t1, b1, p0⟩ (fun i σ' H' _ ⟨tt, _⟩ => (tt.sqF g1).sq) ?_ ?_⟩
    · rintro i x σ2 H2 hi ⟨tt, τ2, h2, t2, r2, b2, q2⟩
      have hl : i < ds.length := by rw [← g2.length]; exact (List.getElem?_eq_some_iff.mp hi).1
      obtain ⟨x', e1, e2⟩ := g2.get (List.getElem?_eq_getElem hl)
      rw [hi] at e1
      cases e1
      refine ⟨_, τ2, h2, _, e2.mono tt, r2, b2, st i _ τ2 h2 (List.getElem?_eq_getElem hl) q2, fun σ3 H3 ⟨τ3, h3, t3, r3, b3, w3⟩ => ?_⟩
      have t23 := t2.trans t3
      exact ⟨τ3, h3, { nx := Pv (i + 1), ct := Pv (i + 1), bk := D.nx, rt := D.rt }, r3, b3, w3, fun σ4 H4 ⟨τ4, h4, t4, z⟩ => ⟨(tt.trans t3).trans t4, τ4, h4, t23.trans t4, z⟩, fun _ _ => kE.trans t23, fun _ _ => kN.trans t23, fun σ4 H4 ⟨τ4, h4, t4, z⟩ => ⟨(tt.trans t3).trans t4, τ4, h4, t23.trans t4, z⟩⟩
    · rintro σ2 H2 ⟨_, τ2, h2, t2, r2, b2, q2⟩
      rw [g2.length] at q2
      exact ⟨τ2, h2, t2, r2, b2, en τ2 h2 q2⟩
end
end Dv
/-! Rules: raise, try; defs. -/
namespace Dv
open PySem PySem.Spec PyProof.Rows L2

/-! ### raise -/
/-- an own exception class without own __init__ at C -/
structure ErrC (K : PySem.W.Frag) (mg : Str → Option Value) (x : Str) (C : Addr) : Prop where
  gC : mg x = some (.ref C)
  ex : PySem.W.excIn K C [.type "ValueError", .type "Exception", .type "BaseException", .type "object"] "ValueError.__new__" = true
  kC : PySem.W.keepIn K (.ref C) = true
  sb : PySem.W.subIn K (.ref C) (.type "BaseException") = some true
  ty : PySem.W.typeIn K (.ref C) = some (.type "type")
section
variable {X : Cy} {N G S : List Str} {τ : SD} {h : HD} {Q : QD} {QT : Bool → HD → Prop} {pos : Pos} {W : WD} {D : KD}
theorem pmk_own0 {C : Addr} {bmB : List Value} {B newId initId : String} {x : Str} {p : Pos} (F : ExcBaseFacts B newId initId bmB) (q : PySem.W.excIn X.K C bmB newId = true) (gC : X.mg x = some (.ref C)) (kC : PySem.W.keepIn X.K (.ref C) = true) (r : Raises X (.ref C)) (hg : Gl X x)
    (hdb : (x == ("__debug__" : Str)) = false) : PMk X (.Call (.Name x p) [] [] pos) (fun _ H Q => Q (.ref C) none H) := by
  intro pins s σ H Q I h
  refine wpAny_Call_Name_kw (ld_glob I hg gC ?_ hdb)
  refine PySem.W.callWith_K0 I.kIn kC ?_
  show wpAny _ _ (call (.ref C) []) _ _ _
  obtain ⟨bm, N, nm, qn, bs, hdct, sn, sub, ab, col, dd, k0, k1, k2, k3, k5, mN, hC, hN, hni, T⟩ := exc_obj I.kIn q
  refine wpAny_call_exc_subT F T hC hN hni (fun h' e hm => ?_) (Nat.zero_le _)
  exact mk_of I hm r h (I.hok.gone hm.new)
/-- raise C() -/
theorem wS_raise0 {x : Str} {C : Addr} {p1 p2 : Pos} (T : ErrC X.K X.mg x C) (Ck : Cok X N G S) (hg : x ∈ G) (hc : X.calm = true) (tk : TakesD X W) (q : W C [] τ h) : wS X (.Raise (some (.Call (.Name x p1) [] [] p2)) none pos) τ h D :=
  wS_of (ps_raise hc tk (pmk_own0 PySem.F.excBase_ValueError T.ex T.gC T.kC (raises_own T.sb T.ty) (Ck.gl x hg) (Ck.db x (List.mem_append_right _ hg)).1)) fun σ H r b => ⟨C, [], τ, h, rfl, .inl ⟨rfl, rfl⟩, r, b, q⟩

/-! ### try -/
def Cy.tr (X : Cy) (pn : List (Addr × Obj)) (xe : Value → Shared → Prop) (H : Hp) : Cy := { toCx := X.toCx.tr pn xe, bh := H }
def Cy.suite (X : Cy) (a : Addr) (pn : List (Addr × Obj)) (H : Hp) : Cy := { toCx := X.toCx.suite a pn, bh := H }
theorem Cok.tr (C : Cok X N G S) {pn : List (Addr × Obj)} {xe : Value → Shared → Prop} {H : Hp} (po : PassesOwn (model X.prog X.w) X.A X.env xe) : Cok (X.tr pn xe H) N G S :=
  ⟨C.hN, C.nd, C.vis, C.sto, C.gl, C.db, C.stk, C.frm, po, C.un, C.bl⟩
theorem Cok.suite (C : Cok X N G S) {a : Addr} {pn : List (Addr × Obj)} {H : Hp} : Cok (X.suite a pn H) N G S :=
  ⟨C.hN, C.nd, C.vis, C.sto, C.gl, C.db, C.stk, C.frm, PassesOwn.never, C.un, C.bl⟩
theorem SR.at {X Y : Cy} {H : Hp} {σ : L2.St} {τ : SD} (r : SR X H σ τ) (hK : Y.K = X.K) (hb : Y.bh = H) : SR Y H σ τ :=
  ⟨by rw [hb]; exact TK.refl H, r.len, fun i d e => by rw [hK]; exact r.get i d e⟩
/-- a slot's name goes -/
def gone (τ : SD) (i : Nat) : SD := τ.set i none
theorem SR.gone {X : Cy} {H : Hp} {σ : L2.St} {τ : SD} (r : SR X H σ τ) (i : Nat) : SR X H (σ.set i none) (τ.set i none) := by
  refine ⟨r.tk, by rw [List.length_set, List.length_set]; exact r.len, fun j d e => ?_⟩
  by_cases z : i = j
  · subst z
    by_cases hl : i < τ.length
    · rw [List.getElem?_set_self hl] at e
      cases e
    · rw [List.getElem?_eq_none (by rw [List.length_set]; omega)] at e
      cases e
  · rw [List.getElem?_set_ne z] at e
    obtain ⟨v, h1, h2⟩ := r.get j d e
    exact ⟨v, by rw [List.getElem?_set_ne z]; exact h1, h2⟩
/-- try: body / except x as n: suite -/
theorem wS_tryas {x n : Str} {i : Nat} {CV : Value} {body suite : List Stmt} {b₀ : Stmt} {np pos' : Pos} {Wout : WD} (C : Cok X N G S) (hi : N[i]? = some n) (hln : X.env.kindOf n = some .local) (hc : Names X x CV) (tk : TakesD X Wout)
    (w : ∀ (H : Hp) (pn : List (Addr × Obj)) (xe : Value → Shared → Prop) (WD0 : WD), PassesOwn (model X.prog X.w) X.A X.env xe → TakesD (X.tr pn xe H) WD0 →
      (∀ c fs τ1 h1, (∃ b, PySem.W.exmOne X.K (.ref c) CV = some b ∧
        (b = true → ∀ (a : Addr) (H1 : Hp) (oe : Obj) (pn1 : List (Addr × Obj)) (d : Option Addr), Zc (.ref c) d oe → (∃ vs, oe.data = .fields vs) → (fs = [] → d = none) →
          wB (X.suite a ((a, oe) :: pn1) H1) (b₀ :: suite) (τ1.set i (some (.ref a))) h1 { nx := fun τ2 h2 => D.nx (τ2.set i none) h2, rt := D.rt, bk := fun τ2 h2 => D.bk (τ2.set i none) h2, ct := fun τ2 h2 => D.ct (τ2.set i none) h2 }) ∧
        (b = false → Wout c fs τ1 h1)) → WD0 c fs τ1 h1) →
      wB (X.tr pn xe H) body τ h D) :
    wS X (.Try body [.ExceptHandler (some (.Name x np)) (some n) (b₀ :: suite) pos'] [] [] pos) τ h D := by
  refine wS_of (ps_try_as (i := i)
    (tb := fun W D' σ H => ∃ (τ : SD) (h : HD) (KD' : KD) (WD0 : WD) (H0 : Hp), SR X H σ τ ∧ HR X.K H h ∧ H0 = H ∧
      (∀ (pn : List (Addr × Obj)) (xe : Value → Shared → Prop), Takes (X.toCx.tr pn xe) (wX (X.tr pn xe H0) WD0) → PassesOwn (model X.prog X.w) X.A X.env xe → wB (X.tr pn xe H0) body τ h KD') ∧
      (∀ cls d σ' H', wX (X.tr [] (fun _ _ => False) H0) WD0 cls d σ' H' → W cls d σ' H') ∧
      (∀ σ' H', kN X H KD'.nx σ' H' → D'.nx σ' H') ∧ (∀ v H', kE X H KD'.rt v H' → D'.rt v H') ∧ (∀ σ' H', kN X H KD'.bk σ' H' → D'.bk σ' H') ∧ ∀ σ' H', kN X H KD'.ct σ' H' → D'.ct σ' H')
    (ts := fun a cls d D' σ H => ∃ (τ : SD) (h : HD) (KD' : KD) (H0 : Hp), SR X H σ τ ∧ HR X.K H h ∧ H0 = H ∧
      (∀ (oe : Obj) (pn : List (Addr × Obj)), Zc cls d oe → (∃ vs, oe.data = .fields vs) → wB (X.suite a ((a, oe) :: pn) H0) (b₀ :: suite) τ h KD') ∧
      (∀ σ' H', kN X H KD'.nx σ' H' → D'.nx σ' H') ∧ (∀ v H', kE X H KD'.rt v H' → D'.rt v H') ∧ (∀ σ' H', kN X H KD'.bk σ' H' → D'.bk σ' H') ∧ ∀ σ' H', kN X H KD'.ct σ' H' → D'.ct σ' H')
    C.stk C.frm C.nd (by rw [C.hN]; exact hi) hln hc tk ?_ ?_) ?_
  · -- the body
    intro W pn xe tkW po
    refine ⟨fun pins s σ H D' I ⟨τ, h, KD', WD0, H0, r, b, e0, hw, hW, k1, k2, k3, k4⟩ => ?_⟩
    have t0 : Takes (X.toCx.tr pn xe) (wX (X.tr pn xe H0) WD0) := tkW.imp fun c d σ' H' ⟨c1, fs, τ1, h1, e1, xd, sr, hr, q⟩ => hW c d σ' H' ⟨c1, fs, τ1, h1, e1, xd, ⟨sr.tk, sr.len, sr.get⟩, hr, q⟩
    refine thn (hw pn xe t0 po pins s σ H I (r.at rfl e0) b) fun f s' z => sp_of (X := X.tr pn xe H0) z ?_ ?_ ?_ ?_
    · rintro σ' H' ⟨τ', h', t, q1, q2, q⟩
      exact k1 σ' H' ⟨τ', h', t, ⟨(r.tk.trans t), q1.len, q1.get⟩, q2, q⟩
    · rintro v H' ⟨d, h', t, q1, q2, q⟩
      exact k2 v H' ⟨d, h', t, q1, q2, q⟩
    · rintro σ' H' ⟨τ', h', t, q1, q2, q⟩
      exact k3 σ' H' ⟨τ', h', t, ⟨(r.tk.trans t), q1.len, q1.get⟩, q2, q⟩
    · rintro σ' H' ⟨τ', h', t, q1, q2, q⟩
      exact k4 σ' H' ⟨τ', h', t, ⟨(r.tk.trans t), q1.len, q1.get⟩, q2, q⟩
  · -- the suite
    intro a oe cls d pn hz hf
    refine ⟨fun pins s σ H D' I ⟨τ, h, KD', H0, r, b, e0, hw, k1, k2, k3, k4⟩ => ?_⟩
    refine thn (hw oe pn hz hf pins s σ H I (r.at rfl e0) b) fun f s' z => sp_of (X := X.suite a ((a, oe) :: pn) H0) z ?_ ?_ ?_ ?_
    · rintro σ' H' ⟨τ', h', t, q1, q2, q⟩
      exact k1 σ' H' ⟨τ', h', t, ⟨(r.tk.trans t), q1.len, q1.get⟩, q2, q⟩
    · rintro v H' ⟨d, h', t, q1, q2, q⟩
      exact k2 v H' ⟨d, h', t, q1, q2, q⟩
    · rintro σ' H' ⟨τ', h', t, q1, q2, q⟩
      exact k3 σ' H' ⟨τ', h', t, ⟨(r.tk.trans t), q1.len, q1.get⟩, q2, q⟩
    · rintro σ' H' ⟨τ', h', t, q1, q2, q⟩
      exact k4 σ' H' ⟨τ', h', t, ⟨(r.tk.trans t), q1.len, q1.get⟩, q2, q⟩
  · -- the reading
    intro σ H r b
    refine ⟨τ, h, D, fun c fs τ1 h1 => (∃ b, PySem.W.exmOne X.K (.ref c) CV = some b ∧
        (b = true → ∀ (a : Addr) (H1 : Hp) (oe : Obj) (pn1 : List (Addr × Obj)) (d : Option Addr), Zc (.ref c) d oe → (∃ vs, oe.data = .fields vs) → (fs = [] → d = none) →
          wB (X.suite a ((a, oe) :: pn1) H1) (b₀ :: suite) (τ1.set i (some (.ref a))) h1 { nx := fun τ2 h2 => D.nx (τ2.set i none) h2, rt := D.rt, bk := fun τ2 h2 => D.bk (τ2.set i none) h2, ct := fun τ2 h2 => D.ct (τ2.set i none) h2 }) ∧
        (b = false → Wout c fs τ1 h1)), H, r, b, rfl, fun pn xe t0 po => w H pn xe _ po t0 fun _ _ _ _ z => z, ?_, fun _ _ z => z, fun _ _ z => z, fun _ _ z => z, fun _ _ z => z⟩
    rintro cls d σ' H' ⟨c, fs, τ1, h1, rfl, xd, sr, hr, k, hk, hy, hn⟩
    refine ⟨k, hk, fun hb a ha => ?_, fun hb => ?_⟩
    · have tH : TK H H' := sr.tk
      have sr2 : SR X H' σ' τ1 := ⟨r.tk.trans tH, sr.len, sr.get⟩
      refine ⟨_, h1, _, H', sr2.set (.ref a) i, hr, rfl, fun oe pn hz hf => hy hb a H' oe pn d hz hf ?_, ?_, fun v H2 z => kE.trans tH z, ?_, ?_⟩
      · intro z
        rcases xd with ⟨e1, _⟩ | ⟨e1, _⟩
        · exact e1
        · exact (e1 z).elim
      · rintro σ2 H2 ⟨τ2, h2, t2, r2, b2, q⟩
        exact ⟨_, h2, tH.trans t2, r2.gone i, b2, q⟩
      · rintro σ2 H2 ⟨τ2, h2, t2, r2, b2, q⟩
        exact ⟨_, h2, tH.trans t2, r2.gone i, b2, q⟩
      · rintro σ2 H2 ⟨τ2, h2, t2, r2, b2, q⟩
        exact ⟨_, h2, tH.trans t2, r2.gone i, b2, q⟩
    · exact ⟨c, fs, τ1, h1, rfl, xd, ⟨r.tk.trans sr.tk, sr.len, sr.get⟩, hr, hn hb⟩
/-- isinstance(n, c) of the exception that the suite holds (without own fields) -/
theorem wE_isE {Y : Cy} {a DC : Addr} {oe : Obj} {pn : List (Addr × Obj)} {H0 : Hp} {n : Str} {np p : Pos} {e2 : Expr} (Y0 : Y = X.suite a ((a, oe) :: pn) H0) (Ce : ExcC X.K DC) (hz : Zc (.ref DC) none oe) (hf : ∃ vs, oe.data = .fields vs)
    (C : Cok X N G S) (hg : ("isinstance" : Str) ∈ G) (at_ : At N τ n (.ref a))
    (w : wE Y e2 τ h fun c h2 => ∃ b cv, ((∃ m, c = .ty m ∧ cv = .type m) ∨ ∃ c', c = .ref c' ∧ cv = .ref c') ∧ PySem.W.kitOne X.K (.ref DC) cv = some b ∧ Q (.bl b) h2)
    (he : starEach [.Name n np, e2] Y.env = (false, eval (.Name n np) Y.env) :: starEach [e2] Y.env := by rfl) (he2 : starEach [e2] Y.env = (false, eval e2 Y.env) :: starEach [] Y.env := by rfl) (hpl : (backTo pos (starEach [e2] Y.env)).any (·.1) = false := by rfl) :
    wE Y (.Call (.Name "isinstance" p) [.Name n np, e2] [] pos) τ h Q := by
  subst Y0
  have C' : Cok (X.suite a ((a, oe) :: pn) H0) N G S := C.suite
  refine wE_cb (call_isE Ce hz hf) C' hg (C.bl _ (by unfold BL; repeat (first | exact List.Mem.head _ | apply List.Mem.tail))) (by decide +kernel) (wA_cons (wE_name C' at_ (wA_cons (w.imp fun c h2 z => wA_nil fun H vs n b => ?_) he2)) he) he hpl
  obtain ⟨k, cv, z1, z2, z⟩ := z
  cases n with
  | cons n1 n2 =>
    cases n2 with
    | cons n2 n3 =>
      cases n3
      have fin : kE (X.suite a ((a, oe) :: pn) H0) H Q (.bl k) H := ⟨_, h2, TK.refl H, .bl _, b, z⟩
      cases n1 with
      | ref =>
        rcases z1 with ⟨m, rfl, rfl⟩ | ⟨c', rfl, rfl⟩
        · cases n2
          exact ⟨_, _, k, rfl, fun u r => r, z2, fin⟩
        · cases n2
          exact ⟨_, _, k, rfl, fun u r => r, z2, fin⟩
theorem wE_isEr {Y : Cy} {a DC c' : Addr} {oe : Obj} {pn : List (Addr × Obj)} {H0 : Hp} {n x : Str} {np p p2 : Pos} {b : Bool} (Y0 : Y = X.suite a ((a, oe) :: pn) H0) (Ce : ExcC X.K DC) (hz : Zc (.ref DC) none oe) (hf : ∃ vs, oe.data = .fields vs)
    (C : Cok X N G S) (hg : ("isinstance" : Str) ∈ G) (at_ : At N τ n (.ref a)) (hx : x ∈ G) (hm : X.mg x = some (.ref c')) (k : PySem.W.kitOne X.K (.ref DC) (.ref c') = some b) (q : Q (.bl b) h) :
    wE Y (.Call (.Name "isinstance" p) [.Name n np, .Name x p2] [] pos) τ h Q :=
  wE_isE Y0 Ce hz hf C hg at_ (by subst Y0; exact wE_glob C.suite hx ⟨⟨_, .ref c', hm, rfl, fun H => .ref c'⟩⟩ ⟨b, _, .inr ⟨_, rfl, rfl⟩, k, q⟩)
theorem wE_isEt {Y : Cy} {a DC : Addr} {oe : Obj} {pn : List (Addr × Obj)} {H0 : Hp} {n x : Str} {np p p2 : Pos} {b : Bool} {m : String} (Y0 : Y = X.suite a ((a, oe) :: pn) H0) (Ce : ExcC X.K DC) (hz : Zc (.ref DC) none oe) (hf : ∃ vs, oe.data = .fields vs)
    (C : Cok X N G S) (hg : ("isinstance" : Str) ∈ G) (at_ : At N τ n (.ref a)) (hx : x ∈ G) (hb : x ∈ BL) (hv : bootBuiltins x = some (.type m)) (k : PySem.W.kitOne X.K (.ref DC) (.type m) = some b) (q : Q (.bl b) h) :
    wE Y (.Call (.Name "isinstance" p) [.Name n np, .Name x p2] [] pos) τ h Q :=
  wE_isE Y0 Ce hz hf C hg at_ (by subst Y0; exact wE_type C.suite hx hb hv ⟨b, _, .inl ⟨_, rfl, rfl⟩, k, q⟩)
/-- a class, a def of the module as a value -/
theorem GlD.ref {K : PySem.W.Frag} {mg : Str → Option Value} {x : Str} {C : Addr} (h : mg x = some (.ref C)) : GlD K mg x (.ref C) := ⟨⟨_, .ref C, h, rfl, fun H => .ref C⟩⟩

/-! ### defs -/
def scB (sc : Scope) (N G : List Str) : Bool :=
  N.all (fun x => sc.names.lookup x == some .local || sc.names.lookup x == some .cell) && (G.all (fun x => sc.names.lookup x == some .globalImplicit) && (N ++ G).all (fun x => !(x == ("__debug__" : Str)) && (!(x == ("__classdict__" : Str)) && !(x == ("__name__" : Str)))))
def startD : List Str → List Dv.D → SD
  | [], _ => []
  | _ :: N, [] => none :: startD N []
  | _ :: N, d :: ds => some d :: startD N ds
theorem startD_nil : ∀ N : List Str, startD N [] = List.replicate N.length none
  | [] => rfl
  | x :: N => by
    show none :: startD N [] = List.replicate (N.length + 1) none
    rw [startD_nil N, List.replicate_succ]
theorem startD_eq : ∀ (N : List Str) (ds : List Dv.D), ds.length ≤ N.length → startD N ds = ds.map some ++ List.replicate (N.length - ds.length) none
  | [], [], _ => rfl
  | [], d :: ds, h => absurd h (Nat.not_succ_le_zero _)
  | x :: N, [], _ => by rw [startD_nil]; rfl
  | x :: N, d :: ds, h => by
    show some d :: startD N ds = _
    rw [startD_eq N ds (Nat.le_of_succ_le_succ h), List.length_cons, List.length_cons, Nat.add_sub_add_right]
    rfl
theorem startD_ok {Y : Cy} {H : Hp} {vs : List V} {ds : List Dv.D} (n : DnA Y.K H vs ds) (tk : TK Y.bh H) (N : List Str) (hz : ds.length ≤ N.length) : SR Y H (L2.start N vs) (startD N ds) := by
  have hl := n.length
  rw [startD_eq N ds hz]
  refine ⟨tk, by simp [L2.start, hl], fun i d e => ?_⟩
  by_cases hi : i < ds.length
  · rw [List.getElem?_append_left (by simpa using hi), List.getElem?_map] at e
    cases q : ds[i]? with
    | none => rw [q] at e; cases e
    | some d' =>
      rw [q] at e
      cases e
      obtain ⟨v, e1, e2⟩ := n.get q
      refine ⟨v, ?_, e2⟩
      unfold L2.start
      rw [List.getElem?_append_left (by rw [List.length_map]; omega), List.getElem?_map, e1]
      rfl
  · rw [List.getElem?_append_right (by simpa using hi), List.getElem?_replicate] at e
    split at e <;> cases e
end
theorem scB_ok {sc : Scope} {N G : List Str} (h : scB sc N G = true) : (∀ x ∈ N, Loc sc x) ∧ (∀ x ∈ G, sc.names.lookup x = some .globalImplicit) ∧ ∀ x ∈ N ++ G, (x == ("__debug__" : Str)) = false ∧ (x == ("__classdict__" : Str)) = false ∧ x ≠ "__name__" := by
  unfold scB at h
  rw [Bool.and_eq_true, Bool.and_eq_true, List.all_eq_true, List.all_eq_true, List.all_eq_true] at h
  obtain ⟨h1, h2, h3⟩ := h
  refine ⟨fun x hx => ?_, fun x hx => ?_, fun x hx => ?_⟩
  · have q := h1 x hx
    rw [Bool.or_eq_true, beq_iff_eq, beq_iff_eq] at q
    exact q
  · have q := h2 x hx
    rw [beq_iff_eq] at q
    exact q
  · have q := h3 x hx
    rw [Bool.and_eq_true, Bool.and_eq_true, Bool.not_eq_true', Bool.not_eq_true', Bool.not_eq_true'] at q
    exact ⟨q.1, q.2.1, by simpa using q.2.2⟩
/-- what the body of a def is judged in -/
structure Cdef (X : Cy) (N G : List Str) (k : Nat) (W : WD) : Prop where
  ok : Cok X N G N
  calm : X.calm = true
  room : Room k X.A
  tk : TakesD X W
section
variable {P : Program} {w : World} {K : PySem.W.Frag} {mg : Str → Option Value} {base : Heap}
/-- THE RULE of a def: T, the facts of the module that its body leans on -/
theorem def_oks {x qual : Str} {params : Arguments} {body : List Stmt} {scope : Scope} {dvs : List V} {kws : List (Str × V)} {f : Addr} {fd : FuncData} {N G ps : List Str} {k : Nat} {sp : SpD} {T : Program → World → PySem.W.Frag → (Str → Option Value) → Heap → Prop}
    (F : FunD K x qual params body scope dvs kws f fd) (S : FnScope N ps scope) (sb : scB scope N G = true) (t : T P w K mg base) (bl : ∀ x ∈ BL, mg x = none) (len : ∀ ds h Q E, sp ds h Q E → ds.length = ps.length)
    (hb : ∀ (X : Cy) (ds : List D) (h : HD) (Q : QD) (E : ED), X.env.scope = scope → T X.prog X.w X.K X.mg X.base → Cdef X N G k (fun C fs _ h' => ∃ h2, Ext h2 h' ∧ E C fs h2) → sp ds h Q E →
      wB X body (startD N ds) h { nx := fun _ h' => ∃ h2, Ext h2 h' ∧ Q .non h2, rt := fun d h' => ∃ h2, Ext h2 h' ∧ Q d h2 }) :
    FnOk P w K mg base (L2.CX P w) (k + 1) f fd ps (spOf K sp) := by
  obtain ⟨s1, s2, s3⟩ := scB_ok sb
  refine F.ok S (fun vs H Q E ⟨ds, h, QD', ED', n, b, z, _⟩ => n.length.trans (len ds h QD' ED' z)) fun cdv A outer s H vs Q E hr ⟨ds, h, QD', ED', n, b, z, kQ, kEx⟩ => ?_
  let X : Cy := { toCx := cxOf (L2.CX P w) P w K mg base N qual scope f cdv A outer s H E, bh := H }
  have tkE : Takes X.toCx (fun cls d _ H' => E cls d H') := takes_of rfl rfl rfl rfl
  have C : Cok X N G N := ⟨rfl, S.nd, fun y hy => (s1 y hy).elim .inl fun q => .inr (.inl q), fun y hy => ⟨s1 y hy, .inl rfl⟩, fun y hy => s2 y hy, s3, rfl, rfl, passes_of rfl, hr.units, bl⟩
  have tk : TakesD X (fun C fs _ h' => ∃ h2, Ext h2 h' ∧ ED' C fs h2) := tkE.imp fun cls d σ H' ⟨C1, fs, τ, h', e, xd, sr, hr', h2, x, q⟩ => by
    subst e
    exact kEx C1 d fs H' h2 sr.tk xd (hr'.ext x) q
  have wb := hb X ds h QD' ED' rfl t ⟨C, rfl, hr, tk⟩ z
  refine ⟨tBk X body, pss_tB (X := X), startD N ds, h, _, startD_ok (Y := X) n (TK.refl H) N (by rw [len ds h QD' ED' z, ← S.pre, List.length_take]; exact Nat.min_le_right _ _), b, wb, ?_, ?_, ?_, ?_⟩
  · rintro σ' H' ⟨τ', h', t', _, b', h2, x, q⟩
    exact kQ .non H' .non h2 t' .non (b'.ext x) q
  · rintro v H' ⟨d, h', t', n', b', h2, x, q⟩
    exact kQ v H' d h2 t' n' (b'.ext x) q
  · rintro σ' H' ⟨τ', h', _, _, _, q⟩
    exact q.elim
  · rintro σ' H' ⟨τ', h', _, _, _, q⟩
    exact q.elim
theorem def_ok {x qual : Str} {params : Arguments} {body : List Stmt} {scope : Scope} {dvs : List V} {kws : List (Str × V)} {f : Addr} {fd : FuncData} {N G ps : List Str} {k : Nat} {sp : SpD} {T : Program → World → PySem.W.Frag → (Str → Option Value) → Heap → Prop}
    (F : FunD K x qual params body scope dvs kws f fd) (S : FnScope N ps scope) (sb : scB scope N G = true) (t : T P w K mg base) (bl : ∀ x ∈ BL, mg x = none) (len : ∀ ds h Q E, sp ds h Q E → ds.length = ps.length)
    (hb : ∀ (X : Cy) (ds : List D) (h : HD) (Q : QD) (E : ED), T X.prog X.w X.K X.mg X.base → Cdef X N G k (fun C fs _ h' => ∃ h2, Ext h2 h' ∧ E C fs h2) → sp ds h Q E →
      wB X body (startD N ds) h { nx := fun _ h' => ∃ h2, Ext h2 h' ∧ Q .non h2, rt := fun d h' => ∃ h2, Ext h2 h' ∧ Q d h2 }) :
    FnOk P w K mg base (L2.CX P w) (k + 1) f fd ps (spOf K sp) := def_oks F S sb t bl len fun X ds h Q E _ => hb X ds h Q E
end
end Dv
/-! Rules by cases for the walk. -/
namespace Dv
open PySem PySem.Spec PyProof.Rows L2
section
variable {h : HD} {Q : QD} {k : Bool → Prop} {kI : Int → Prop}
theorem b_add {i j : Int} (q : Q (.int (i + j)) h) : binD .Add (.int i) (.int j) h Q := q
theorem b_sub {i j : Int} (q : Q (.int (i - j)) h) : binD .Sub (.int i) (.int j) h Q := q
theorem b_mul {i j : Int} (c : CMulX i j) (q : Q (.int (i * j)) h) : binD .Mult (.int i) (.int j) h Q := ⟨c, q⟩
theorem b_div {i j : Int} (c : j ≠ 0 ∧ Builtin.divisionGoesByPylong i j = false) (q : Q (.int (i.fdiv j)) h) : binD .FloorDiv (.int i) (.int j) h Q := ⟨c, q⟩
theorem b_mod {i j : Int} (c : j ≠ 0) (q : Q (.int (i.fmod j)) h) : binD .Mod (.int i) (.int j) h Q := ⟨c, q⟩
theorem b_pow {i j : Int} (c : 0 ≤ j ∧ (Builtin.Int.intBits i : Int) * j ≤ 2 ^ 27) (q : Q (.int (i ^ j.toNat)) h) : binD .Pow (.int i) (.int j) h Q := ⟨c, q⟩
theorem b_addS {i j : Str} (c : i.length + j.length ≤ sizeLine) (q : Q (.str (i ++ j)) h) : binD .Add (.str i) (.str j) h Q := ⟨c, q⟩
theorem u_neg {i : Int} (q : Q (.int (-i)) h) : unD .USub (.int i) h Q := q
theorem c_lt {i j : Int} (q : k (decide (i < j))) : cmpD .Lt (.int i) (.int j) k := q
theorem c_le {i j : Int} (q : k (decide (i ≤ j))) : cmpD .LtE (.int i) (.int j) k := q
theorem c_gt {i j : Int} (q : k (decide (j < i))) : cmpD .Gt (.int i) (.int j) k := q
theorem c_ge {i j : Int} (q : k (decide (j ≤ i))) : cmpD .GtE (.int i) (.int j) k := q
theorem c_eq {i j : Int} (q : k (decide (i = j))) : cmpD .Eq (.int i) (.int j) k := q
theorem c_ne {i j : Int} (q : k (!decide (i = j))) : cmpD .NotEq (.int i) (.int j) k := q
theorem c_eqS {i j : Str} (q : k (decide (i = j))) : cmpD .Eq (.str i) (.str j) k := q
theorem c_neS {i j : Str} (q : k (!decide (i = j))) : cmpD .NotEq (.str i) (.str j) k := q
theorem i_tup {ds : List D} {i : Int} {d : D} (e : atI ds i = some d) (q : Q d h) : ixD (.tup ds) (.int i) h Q := ⟨d, e, q⟩
theorem i_fz {ds : List D} {i : Int} {d : D} (e : atI ds i = some d) (q : Q d h) : ixD (.fz ds) (.int i) h Q := ⟨d, e, q⟩
theorem i_ref {a : Addr} {ds : List D} {i : Int} {d : D} (e0 : h a = some (.lst ds)) (e : atI ds i = some d) (q : Q d h) : ixD (.ref a) (.int i) h Q := ⟨ds, d, e0, e, q⟩
theorem l_tup {ds : List D} (q : kI ds.length) : lenD (.tup ds) h kI := q
theorem l_tup0 (q : kI 0) : lenD (.tup []) h kI := q
theorem l_tup1 {a : D} (q : kI 1) : lenD (.tup [a]) h kI := q
theorem l_tup2 {a b : D} (q : kI 2) : lenD (.tup [a, b]) h kI := q
theorem l_tup3 {a b c : D} (q : kI 3) : lenD (.tup [a, b, c]) h kI := q
theorem l_tup4 {a b c d : D} (q : kI 4) : lenD (.tup [a, b, c, d]) h kI := q
theorem l_fz {ds : List D} (q : kI ds.length) : lenD (.fz ds) h kI := q
theorem l_ref {a : Addr} {ds : List D} (e : h a = some (.lst ds)) (q : kI ds.length) : lenD (.ref a) h kI := ⟨ds, e, q⟩
theorem t_bl {c : Bool} (q : k c) : truD (.bl c) h k := q
theorem t_int {i : Int} (q : k (i != 0)) : truD (.int i) h k := q
theorem t_non (q : k false) : truD .non h k := q
theorem t_fz {ds : List D} (q : k (!ds.isEmpty)) : truD (.fz ds) h k := q
theorem t_tup {ds : List D} (q : k (!ds.isEmpty)) : truD (.tup ds) h k := q
theorem t_ref {a : Addr} {ds : List D} (e : h a = some (.lst ds)) (q : k (!ds.isEmpty)) : truD (.ref a) h k := ⟨ds, e, q⟩
/-- a test's two ways, the answer a decided one -/
theorem ways {p A B : Prop} [Decidable p] (h1 : p → A) (h2 : ¬ p → B) : (decide p = true → A) ∧ (decide p = false → B) := ⟨fun e => h1 (of_decide_eq_true e), fun e => h2 (of_decide_eq_false e)⟩
theorem waysN {p A B : Prop} [Decidable p] (h1 : ¬ p → A) (h2 : p → B) : ((!decide p) = true → A) ∧ ((!decide p) = false → B) := ⟨fun e => h1 (by simpa using e), fun e => h2 (by simpa using e)⟩
theorem ways_t {A B : Prop} (h1 : A) : (true = true → A) ∧ (true = false → B) := ⟨fun _ => h1, fun e => Bool.noConfusion e⟩
theorem ways_f {A B : Prop} (h1 : B) : (false = true → A) ∧ (false = false → B) := ⟨fun e => Bool.noConfusion e, fun _ => h1⟩
/-- the end of a def whose heap is as it was -/
theorem fin {d : D} {h h' : HD} (e : Ext h h') (q : Q d h) : ∃ h2, Ext h2 h' ∧ Q d h2 := ⟨h, e, q⟩
end
theorem tupz {ds : List D} {R : Prop} (hl : Nat.ble ds.length 1000 = true) (q : R) : ds.length ≤ sizeLine ∧ R := ⟨Nat.le_trans (Nat.le_of_ble_eq_true hl) (by decide), q⟩
theorem gix {a : Addr} {k : Int} {ds : List D} {j : Nat} {h : HD} {τ : SD} {d : D} {Q : SD → HD → Prop} (e0 : h a = some (.lst ds)) (e : ixN ds.length k = some j) (q : Q τ (hset h a (.lst (ds.set j d)))) :
    ∃ a' k' ds' j', D.ref a = .ref a' ∧ D.int k = .int k' ∧ h a' = some (.lst ds') ∧ ixN ds'.length k' = some j' ∧ Q τ (hset h a' (.lst (ds'.set j' d))) := ⟨a, k, ds, j, rfl, rfl, e0, e, q⟩
theorem b_pow6 {h : HD} {Q : QD} (q : Q (.int 1000000) h) : binD .Pow (.int 10) (.int 6) h Q := b_pow (by decide +kernel) (by rw [show (10 : Int) ^ Int.toNat 6 = 1000000 by decide +kernel]; exact q)
theorem b_pow18 {h : HD} {Q : QD} (q : Q (.int 1000000000000000000) h) : binD .Pow (.int 10) (.int 18) h Q := b_pow (by decide +kernel) (by rw [show (10 : Int) ^ Int.toNat 18 = 1000000000000000000 by decide +kernel]; exact q)
theorem b_pow30 {h : HD} {Q : QD} (q : Q (.int 1000000000000000000000000000000) h) : binD .Pow (.int 10) (.int 30) h Q := b_pow (by decide +kernel) (by rw [show (10 : Int) ^ Int.toNat 30 = 1000000000000000000000000000000 by decide +kernel]; exact q)
theorem b_pow60 {h : HD} {Q : QD} (q : Q (.int 1000000000000000000000000000000000000000000000000000000000000) h) : binD .Pow (.int 10) (.int 60) h Q := b_pow (by decide +kernel) (by rw [show (10 : Int) ^ Int.toNat 60 = 1000000000000000000000000000000000000000000000000000000000000 by decide +kernel]; exact q)
/-- 10 to the 840 -/
def c840 : Int := 1000000000000000000000000000000000000000000000000000000000000 ^ 14
theorem c840_pos : 0 < c840 := by decide +kernel
theorem c840_lt : c840 < 2 ^ 2800 := by decide +kernel
theorem b_pow840 {h : HD} {Q : QD} (q : Q (.int c840) h) : binD .Pow (.int 1000000000000000000000000000000000000000000000000000000000000) (.int 14) h Q := b_pow (by decide +kernel) (by rw [show (1000000000000000000000000000000000000000000000000000000000000 : Int) ^ Int.toNat 14 = c840 by rfl]; exact q)
/-- a % m, a // m, m a positive number -/
theorem b_modP {i j : Int} {h : HD} {Q : QD} (c : 0 < j) (q : ∀ r, 0 ≤ r → r < j → r = i % j → Q (.int r) h) : binD .Mod (.int i) (.int j) h Q := b_mod (by omega) (by
  rw [Int.fmod_eq_emod_of_nonneg i (by omega)]
  exact q _ (Int.emod_nonneg _ (by omega)) (Int.emod_lt_of_pos _ c) rfl)
theorem b_divP {i j : Int} {h : HD} {Q : QD} (c : 0 < j) (hj : j < 1073741824) (q : Q (.int (i / j)) h) : binD .FloorDiv (.int i) (.int j) h Q := b_div ⟨by omega, PyProof.noPylong_small (by omega)⟩ (by
  rw [Int.fdiv_eq_ediv_of_nonneg i (by omega)]
  exact q)
section
variable {X : Cy} {τ : SD} {h : HD} {D : KD}
theorem wS.imp {st : Stmt} {D' : KD} (a : wS X st τ h D) (k1 : ∀ τ' h', D.nx τ' h' → D'.nx τ' h') (k2 : ∀ d h', D.rt d h' → D'.rt d h') (k3 : ∀ τ' h', D.bk τ' h' → D'.bk τ' h') (k4 : ∀ τ' h', D.ct τ' h' → D'.ct τ' h') : wS X st τ h D' := fun pins s σ H I r b =>
  thn (a pins s σ H I r b) fun f s' z => by
    cases f with
    | next =>
      obtain ⟨σ', H', τ', h', I', t', r', b', q⟩ := z
      exact ⟨σ', H', τ', h', I', t', r', b', k1 _ _ q⟩
    | brk =>
      obtain ⟨σ', H', τ', h', I', t', r', b', q⟩ := z
      exact ⟨σ', H', τ', h', I', t', r', b', k3 _ _ q⟩
    | cont =>
      obtain ⟨σ', H', τ', h', I', t', r', b', q⟩ := z
      exact ⟨σ', H', τ', h', I', t', r', b', k4 _ _ q⟩
    | ret v =>
      obtain ⟨v2, σ2, H2, d2, h2, I2, rv, t2, n2, b2, q2⟩ := z
      exact ⟨v2, σ2, H2, d2, h2, I2, rv, t2, n2, b2, k2 _ _ q2⟩
/-- a word about the end of a statement -/
theorem wS_mid {st : Stmt} (Mid : SD → HD → Prop) (w1 : wS X st τ h { nx := Mid, rt := D.rt, bk := D.bk, ct := D.ct }) (w2 : ∀ τ' h', Mid τ' h' → D.nx τ' h') : wS X st τ h D :=
  w1.imp w2 (fun _ _ z => z) (fun _ _ z => z) fun _ _ z => z
/-- a word between a statement and the rest -/
theorem wB_mid {st : Stmt} {rest : List Stmt} (Mid : SD → HD → Prop) (w1 : wS X st τ h { nx := Mid, rt := D.rt, bk := D.bk, ct := D.ct }) (w2 : ∀ τ' h', Mid τ' h' → wB X rest τ' h' D) : wB X (st :: rest) τ h D :=
  wB_cons (w1.imp w2 (fun _ _ z => z) (fun _ _ z => z) fun _ _ z => z)
end
/-- what a list at a has become; all else stands -/
structure Upd (h h' : HD) (a : Addr) (ds : List D) : Prop where
  at_ : h' a = some (.lst ds)
  ne : ∀ b, b ≠ a → h' b = h b
theorem Upd.set {h : HD} {a : Addr} {ds : List D} : Upd h (hset h a (.lst ds)) a ds := ⟨hset_same, fun b e => hset_ne e⟩
theorem Upd.trans {h h1 h2 : HD} {a : Addr} {ds es : List D} (u : Upd h h1 a ds) (v : Upd h1 h2 a es) : Upd h h2 a es := ⟨v.at_, fun b e => (v.ne b e).trans (u.ne b e)⟩
theorem Upd.ext {h0 h h' : HD} {a : Addr} {ds : List D} (u : Upd h h' a ds) (e : Ext h0 h) (n : h0 a = none) : Ext h0 h' := fun b o q => by
  rw [u.ne b (by rintro rfl; rw [n] at q; cases q)]
  exact e b o q
/-! ### sizes -/
/-- x has at most n bits -/
def Bd (n : Nat) (x : Int) : Prop := x.natAbs < 2 ^ n
theorem Bd.mono {m n : Nat} {x : Int} (h : Bd m x) (l : m ≤ n) : Bd n x := Nat.lt_of_lt_of_le h (Nat.pow_le_pow_right (by decide) l)
theorem Bd.mul {m n : Nat} {x y : Int} (a : Bd m x) (b : Bd n y) : Bd (m + n) (x * y) := wide_lt a b
theorem Bd.add {n : Nat} {x y : Int} (a : Bd n x) (b : Bd n y) : Bd (n + 1) (x + y) := by
  unfold Bd at *
  rw [Nat.pow_succ]
  omega
theorem Bd.sub {n : Nat} {x y : Int} (a : Bd n x) (b : Bd n y) : Bd (n + 1) (x - y) := by
  unfold Bd at *
  rw [Nat.pow_succ]
  omega
theorem Bd.add' {m n : Nat} {x y : Int} (a : Bd m x) (b : Bd n y) : Bd (max m n + 1) (x + y) := (a.mono (Nat.le_max_left _ _)).add (b.mono (Nat.le_max_right _ _))
theorem Bd.sub' {m n : Nat} {x y : Int} (a : Bd m x) (b : Bd n y) : Bd (max m n + 1) (x - y) := (a.mono (Nat.le_max_left _ _)).sub (b.mono (Nat.le_max_right _ _))
/-- a number that is known to lie between ± 2 ^ 80 -/
theorem Bd.small {x : Int} (h : -1208925819614629174706176 < x ∧ x < 1208925819614629174706176) : Bd 80 x := by
  unfold Bd
  have e : (2 : Nat) ^ 80 = 1208925819614629174706176 := by decide
  rw [e]
  omega
theorem Bd.ite {b : Bool} : Bd 1 (if b = true then 1 else 0) := by
  unfold Bd
  split <;> decide
theorem Bd.absI {n : Nat} {x : Int} (a : Bd n x) : Bd n (if x < 0 then -x else x) := by
  unfold Bd at *
  split <;> omega
theorem Bd.neg {n : Nat} {x : Int} (a : Bd n x) : Bd n (-x) := by
  unfold Bd at *
  omega
theorem Bd.le {n : Nat} {x y : Int} (a : Bd n y) (h : x.natAbs ≤ y.natAbs) : Bd n x := Nat.lt_of_le_of_lt h a
theorem Bd.mulX {m n : Nat} {x y : Int} (a : Bd m x) (b : Bd n y) (h : m + n ≤ 134217728) : CMulX x y := mulx_ok a b h
/-- a division by less than 2 ^ 9000 -/
theorem Bd.div {n : Nat} {x y : Int} (h0 : y ≠ 0) (b : Bd n y) (h : n ≤ 9000) (hn : 0 < n) : y ≠ 0 ∧ Builtin.divisionGoesByPylong x y = false :=
  ⟨h0, PyProof.noPylong_of_log2 (Nat.lt_of_lt_of_le (PySem.Flt.log2_lt_of hn b) h)⟩
theorem bt_ValueError : bootBuiltins ("ValueError" : Str) = some (.type "ValueError") := by decide +kernel
theorem bt_int : bootBuiltins ("int" : Str) = some (.type "int") := by decide +kernel
theorem bt_bool : bootBuiltins ("bool" : Str) = some (.type "bool") := by decide +kernel
theorem bt_str : bootBuiltins ("str" : Str) = some (.type "str") := by decide +kernel
theorem bt_tuple : bootBuiltins ("tuple" : Str) = some (.type "tuple") := by decide +kernel
theorem bt_list : bootBuiltins ("list" : Str) = some (.type "list") := by decide +kernel
theorem is_non_int {k : Bool → Prop} (q : k false) : ∃ t n b, D.ty "int" = .ty n ∧ tyD (.non) = some t ∧ kitB t n = some b ∧ k b := ⟨"NoneType", "int", false, rfl, rfl, by decide +kernel, q⟩
theorem is_non_bool {k : Bool → Prop} (q : k false) : ∃ t n b, D.ty "bool" = .ty n ∧ tyD (.non) = some t ∧ kitB t n = some b ∧ k b := ⟨"NoneType", "bool", false, rfl, rfl, by decide +kernel, q⟩
theorem is_non_str {k : Bool → Prop} (q : k false) : ∃ t n b, D.ty "str" = .ty n ∧ tyD (.non) = some t ∧ kitB t n = some b ∧ k b := ⟨"NoneType", "str", false, rfl, rfl, by decide +kernel, q⟩
theorem is_non_tuple {k : Bool → Prop} (q : k false) : ∃ t n b, D.ty "tuple" = .ty n ∧ tyD (.non) = some t ∧ kitB t n = some b ∧ k b := ⟨"NoneType", "tuple", false, rfl, rfl, by decide +kernel, q⟩
theorem is_non_list {k : Bool → Prop} (q : k false) : ∃ t n b, D.ty "list" = .ty n ∧ tyD (.non) = some t ∧ kitB t n = some b ∧ k b := ⟨"NoneType", "list", false, rfl, rfl, by decide +kernel, q⟩
theorem is_bl_int {c : Bool} {k : Bool → Prop} (q : k true) : ∃ t n b, D.ty "int" = .ty n ∧ tyD (.bl c) = some t ∧ kitB t n = some b ∧ k b := ⟨"bool", "int", true, rfl, rfl, by decide +kernel, q⟩
theorem is_bl_bool {c : Bool} {k : Bool → Prop} (q : k true) : ∃ t n b, D.ty "bool" = .ty n ∧ tyD (.bl c) = some t ∧ kitB t n = some b ∧ k b := ⟨"bool", "bool", true, rfl, rfl, by decide +kernel, q⟩
theorem is_bl_str {c : Bool} {k : Bool → Prop} (q : k false) : ∃ t n b, D.ty "str" = .ty n ∧ tyD (.bl c) = some t ∧ kitB t n = some b ∧ k b := ⟨"bool", "str", false, rfl, rfl, by decide +kernel, q⟩
theorem is_bl_tuple {c : Bool} {k : Bool → Prop} (q : k false) : ∃ t n b, D.ty "tuple" = .ty n ∧ tyD (.bl c) = some t ∧ kitB t n = some b ∧ k b := ⟨"bool", "tuple", false, rfl, rfl, by decide +kernel, q⟩
theorem is_bl_list {c : Bool} {k : Bool → Prop} (q : k false) : ∃ t n b, D.ty "list" = .ty n ∧ tyD (.bl c) = some t ∧ kitB t n = some b ∧ k b := ⟨"bool", "list", false, rfl, rfl, by decide +kernel, q⟩
theorem is_int_int {i : Int} {k : Bool → Prop} (q : k true) : ∃ t n b, D.ty "int" = .ty n ∧ tyD (.int i) = some t ∧ kitB t n = some b ∧ k b := ⟨"int", "int", true, rfl, rfl, by decide +kernel, q⟩
theorem is_int_bool {i : Int} {k : Bool → Prop} (q : k false) : ∃ t n b, D.ty "bool" = .ty n ∧ tyD (.int i) = some t ∧ kitB t n = some b ∧ k b := ⟨"int", "bool", false, rfl, rfl, by decide +kernel, q⟩
theorem is_int_str {i : Int} {k : Bool → Prop} (q : k false) : ∃ t n b, D.ty "str" = .ty n ∧ tyD (.int i) = some t ∧ kitB t n = some b ∧ k b := ⟨"int", "str", false, rfl, rfl, by decide +kernel, q⟩
theorem is_int_tuple {i : Int} {k : Bool → Prop} (q : k false) : ∃ t n b, D.ty "tuple" = .ty n ∧ tyD (.int i) = some t ∧ kitB t n = some b ∧ k b := ⟨"int", "tuple", false, rfl, rfl, by decide +kernel, q⟩
theorem is_int_list {i : Int} {k : Bool → Prop} (q : k false) : ∃ t n b, D.ty "list" = .ty n ∧ tyD (.int i) = some t ∧ kitB t n = some b ∧ k b := ⟨"int", "list", false, rfl, rfl, by decide +kernel, q⟩
theorem is_str_int {x : Str} {k : Bool → Prop} (q : k false) : ∃ t n b, D.ty "int" = .ty n ∧ tyD (.str x) = some t ∧ kitB t n = some b ∧ k b := ⟨"str", "int", false, rfl, rfl, by decide +kernel, q⟩
theorem is_str_bool {x : Str} {k : Bool → Prop} (q : k false) : ∃ t n b, D.ty "bool" = .ty n ∧ tyD (.str x) = some t ∧ kitB t n = some b ∧ k b := ⟨"str", "bool", false, rfl, rfl, by decide +kernel, q⟩
theorem is_str_str {x : Str} {k : Bool → Prop} (q : k true) : ∃ t n b, D.ty "str" = .ty n ∧ tyD (.str x) = some t ∧ kitB t n = some b ∧ k b := ⟨"str", "str", true, rfl, rfl, by decide +kernel, q⟩
theorem is_str_tuple {x : Str} {k : Bool → Prop} (q : k false) : ∃ t n b, D.ty "tuple" = .ty n ∧ tyD (.str x) = some t ∧ kitB t n = some b ∧ k b := ⟨"str", "tuple", false, rfl, rfl, by decide +kernel, q⟩
theorem is_str_list {x : Str} {k : Bool → Prop} (q : k false) : ∃ t n b, D.ty "list" = .ty n ∧ tyD (.str x) = some t ∧ kitB t n = some b ∧ k b := ⟨"str", "list", false, rfl, rfl, by decide +kernel, q⟩
theorem is_tup_int {ds : List D} {k : Bool → Prop} (q : k false) : ∃ t n b, D.ty "int" = .ty n ∧ tyD (.tup ds) = some t ∧ kitB t n = some b ∧ k b := ⟨"tuple", "int", false, rfl, rfl, by decide +kernel, q⟩
theorem is_tup_bool {ds : List D} {k : Bool → Prop} (q : k false) : ∃ t n b, D.ty "bool" = .ty n ∧ tyD (.tup ds) = some t ∧ kitB t n = some b ∧ k b := ⟨"tuple", "bool", false, rfl, rfl, by decide +kernel, q⟩
theorem is_tup_str {ds : List D} {k : Bool → Prop} (q : k false) : ∃ t n b, D.ty "str" = .ty n ∧ tyD (.tup ds) = some t ∧ kitB t n = some b ∧ k b := ⟨"tuple", "str", false, rfl, rfl, by decide +kernel, q⟩
theorem is_tup_tuple {ds : List D} {k : Bool → Prop} (q : k true) : ∃ t n b, D.ty "tuple" = .ty n ∧ tyD (.tup ds) = some t ∧ kitB t n = some b ∧ k b := ⟨"tuple", "tuple", true, rfl, rfl, by decide +kernel, q⟩
theorem is_tup_list {ds : List D} {k : Bool → Prop} (q : k false) : ∃ t n b, D.ty "list" = .ty n ∧ tyD (.tup ds) = some t ∧ kitB t n = some b ∧ k b := ⟨"tuple", "list", false, rfl, rfl, by decide +kernel, q⟩
theorem is_fz_int {ds : List D} {k : Bool → Prop} (q : k false) : ∃ t n b, D.ty "int" = .ty n ∧ tyD (.fz ds) = some t ∧ kitB t n = some b ∧ k b := ⟨"list", "int", false, rfl, rfl, by decide +kernel, q⟩
theorem is_fz_bool {ds : List D} {k : Bool → Prop} (q : k false) : ∃ t n b, D.ty "bool" = .ty n ∧ tyD (.fz ds) = some t ∧ kitB t n = some b ∧ k b := ⟨"list", "bool", false, rfl, rfl, by decide +kernel, q⟩
theorem is_fz_str {ds : List D} {k : Bool → Prop} (q : k false) : ∃ t n b, D.ty "str" = .ty n ∧ tyD (.fz ds) = some t ∧ kitB t n = some b ∧ k b := ⟨"list", "str", false, rfl, rfl, by decide +kernel, q⟩
theorem is_fz_tuple {ds : List D} {k : Bool → Prop} (q : k false) : ∃ t n b, D.ty "tuple" = .ty n ∧ tyD (.fz ds) = some t ∧ kitB t n = some b ∧ k b := ⟨"list", "tuple", false, rfl, rfl, by decide +kernel, q⟩
theorem is_fz_list {ds : List D} {k : Bool → Prop} (q : k true) : ∃ t n b, D.ty "list" = .ty n ∧ tyD (.fz ds) = some t ∧ kitB t n = some b ∧ k b := ⟨"list", "list", true, rfl, rfl, by decide +kernel, q⟩
theorem ways_nt {A B : Prop} (h1 : B) : ((!true) = true → A) ∧ ((!true) = false → B) := ⟨fun e => Bool.noConfusion e, fun _ => h1⟩
theorem ways_nf {A B : Prop} (h1 : A) : ((!false) = true → A) ∧ ((!false) = false → B) := ⟨fun _ => h1, fun e => Bool.noConfusion e⟩
/-- a test that is known to hold -/
theorem ways_y {p A B : Prop} [Decidable p] (h0 : p) (h1 : A) : (decide p = true → A) ∧ (decide p = false → B) := ways (fun _ => h1) fun e => (e h0).elim
theorem ways_n {p A B : Prop} [Decidable p] (h0 : ¬ p) (h1 : B) : (decide p = true → A) ∧ (decide p = false → B) := ways (fun e => (h0 e).elim) fun _ => h1
theorem waysN_y {p A B : Prop} [Decidable p] (h0 : p) (h1 : B) : ((!decide p) = true → A) ∧ ((!decide p) = false → B) := waysN (fun e => (e h0).elim) fun _ => h1
theorem waysN_n {p A B : Prop} [Decidable p] (h0 : ¬ p) (h1 : A) : ((!decide p) = true → A) ∧ ((!decide p) = false → B) := waysN (fun _ => h1) fun e => (h0 e).elim
end Dv
/-! Rules: calls with keywords; binding. -/
namespace Dv
open PySem PySem.Spec PyProof.Rows L2
/-- out of the walk's sight -/
structure Hide (p : Prop) : Prop where
  h : p
/-- a def of the module, called with keywords: n values stand ahead, ks the keywords, g the order -/
structure FnK (P : Program) (w : World) (K : PySem.W.Frag) (mg : Str → Option Value) (base : Heap) (x : Str) (n : Nat) (ks : List Str) (g : {α : Type} → List α → List α → List α) (lv : Nat) (sp : SpD) : Prop where
  ex : ∃ (f : Addr) (fd : FuncData) (ps : List Str), mg x = some (.ref f) ∧ PySem.W.keepIn K (.ref f) = true ∧ FnOk P w K mg base (L2.CX P w) lv f fd ps (spOf K sp) ∧ KBn K fd ps n ks (fun us ws => g us ws) (fun vs zs => g vs zs) ∧
    ∀ (H : Hp) vs ds zs es, DnA K H vs ds → DnA K H zs es → DnA K H (g vs zs) (g ds es)
section
variable {X : Cy} {N G S : List Str} {τ : SD} {h : HD} {Q : QD} {pos : Pos} {W : WD}
def wK (X : Cy) (kws : List Keyword) (τ : SD) (h : HD) (Q : List D → HD → Prop) : Prop :=
  ∀ (pos : Pos) (pins : List (Addr × Obj)) (s : Shared) (σ : L2.St) (H : Hp), Inv X pins σ H s → SR X H σ τ → HR X.K H h → wpAny (model X.prog X.w) X.A (evalAll ((backToKw pos (keywordEach kws X.env)).map (·.2))) (APD X pins σ H Q) X.xe s
theorem wK_nil {Q : List D → HD → Prop} (q : Q [] h) : wK X [] τ h Q := fun pos pins s σ H I _ b => wpAny_evalAll_nil ⟨[], H, [], h, I, .nil, TK.refl H, .nil, b, q⟩
theorem wK_cons {nm : Option Str} {kpos : Pos} {e : Expr} {kws : List Keyword} {Q : List D → HD → Prop} (a : wE X e τ h fun d h1 => wK X kws τ h1 fun ds h2 => Q (d :: ds) h2) : wK X (⟨nm, e, kpos⟩ :: kws) τ h Q := by
  intro pos pins s σ H I r b
  show wpAny _ _ (evalAll ((do let v ← eval e X.env; standAt pos; pure v) :: (backToKw pos (keywordEach kws X.env)).map (·.2))) _ _ s
  refine wpAny_evalAll_cons (wpAny_bind (thn (a pins s σ H I r b) fun u s1 ⟨v, H1, d, h1, I1, r1, t1, n1, b1, w⟩ => wpAny_bind (wpAny_standAt (wpAny_pure ?_))))
  exact thn (w pos pins s1 σ H1 I1 (r.mono t1) b1) fun us s2 ⟨vs, H2, ds, h2, I2, r2, t2, n2, b2, q⟩ => ⟨v :: vs, H2, d :: ds, h2, I2, .cons r1 r2, t1.trans t2, .cons (n1.mono t2) n2, b2, q⟩
theorem run_fnKD {X : Cx} {CX : CXT} {k n : Nat} {f : Addr} {fd : FuncData} {ps ks : List Str} {sp : Sp} {E : L2.St → XK} {g : List Value → List Value → List Value} {gV : List V → List V → List V} {pins : List (Addr × Obj)} {σ : L2.St} {H : Hp} {s : Shared} {Q : VK} {us ws : List Value} {vs zs : List V}
    (F : FnOk X.prog X.w X.K X.mg X.base CX k f fd ps sp) (hr : Room k X.A) (hb : KBn X.K fd ps n ks g gV) (hx : PassesAt CX X σ (E σ))
    (I : Inv X pins σ H s) (r : Vals vs us) (rz : Vals zs ws) (l1 : vs.length = n) (l2 : zs.length = ks.length) (h : sp (gV vs zs) H Q (E σ)) : wpAny (model X.prog X.w) X.A (call (.ref f) us (ks.zip ws)) (EP X pins σ Q) X.xe s := by
  have r2 := hb.rel r rz
  refine wpAny_call (codeAny_mono (F.run X.A X.stack s H ⟨us, ks.zip ws⟩ (g us ws) (gV vs zs) Q (E σ) hr I.env0 (hb.to s us ws I.kIn (r.length.symm.trans l1) (rz.length.symm.trans l2)) r2 h) fun r s' hq => ?_)
  cases r with
  | error e => exact hx pins H s e s' I hq
  | ok fl =>
    cases fl with
    | ret u => exact I.after hq
    | next => exact False.elim hq
    | brk => exact False.elim hq
    | cont => exact False.elim hq
/-- f(k = v, ..) -/
theorem wE_callK0 {x : Str} {ks : List Str} {g : {α : Type} → List α → List α → List α} {lv : Nat} {sp : SpD} {kws : List Keyword} {p : Pos} (F : FnK X.prog X.w X.K X.mg X.base x 0 ks g lv sp) (C : Cok X N G S) (hg : x ∈ G) (hr : Room lv X.A) (tk : TakesD X W)
    (w : wK X kws τ h fun es h1 => es.length = ks.length ∧ sp (g [] es) h1 Q fun c fs h' => W c fs τ h')
    (hall : (backToKw pos (keywordEach kws X.env)).all (·.1.isSome) = true := by rfl) (hks : (backToKw pos (keywordEach kws X.env)).filterMap (·.1) = ks := by rfl)
    (hpl : ((backTo pos (starEach [] X.env)).any (·.1) || (backToKw pos (keywordEach kws X.env)).any (·.1.isNone)) = false := by rfl) :
    wE X (.Call (.Name x p) [] kws pos) τ h Q := by
  obtain ⟨f, fd, ps, hm, hk, F, hb, hdd⟩ := F.ex
  intro pins s σ H I r b
  refine wpAny_Call_Name_kw (ld_glob I (C.gl x hg) hm ?_ (C.db x (List.mem_append_right _ hg)).1)
  refine PySem.W.callWith_KW0 (h₀ := X.base) I.ok.mod.kin hk hall (thn (w pos pins s σ H I r b) fun ws s1 ⟨zs, H1, es, h1, I1, rz, t1, n1, b1, l, z⟩ => ⟨I1.kIn, ?_⟩) hpl
  rw [hks]
  refine thn (run_fnKD (vs := []) (us := []) (E := WE (wX X W)) (Q := kE X H1 Q) F hr hb (passAt tk σ) I1 .nil rz rfl (n1.length.trans l) ?_) fun u s' => EPD.of t1
  exact ⟨_, h1, _, _, hdd H1 _ _ _ _ .nil n1, b1, z, fun v H' d h' t n b' q => ⟨d, h', t, n, b', q⟩, fun C od fs H' h' t xd b' q => ⟨C, fs, τ, h', rfl, xd, r.mono (t1.trans t), b', q⟩⟩
/-- f(e, .., k = v, ..) -/
theorem wE_callK {x : Str} {n : Nat} {ks : List Str} {g : {α : Type} → List α → List α → List α} {lv : Nat} {sp : SpD} {kws : List Keyword} {p : Pos} {e : Expr} {es : List Expr} (F : FnK X.prog X.w X.K X.mg X.base x n ks g lv sp) (C : Cok X N G S) (hg : x ∈ G) (hr : Room lv X.A) (tk : TakesD X W)
    (w : wA X (e :: es) τ h fun ds h0 => wK X kws τ h0 fun es h1 => ds.length = n ∧ es.length = ks.length ∧ sp (g ds es) h1 Q fun c fs h' => W c fs τ h')
    (hall : (backToKw pos (keywordEach kws X.env)).all (·.1.isSome) = true := by rfl) (hks : (backToKw pos (keywordEach kws X.env)).filterMap (·.1) = ks := by rfl)
    (he : starEach (e :: es) X.env = (false, eval e X.env) :: starEach es X.env := by rfl)
    (hpl : ((backTo pos (starEach (e :: es) X.env)).any (·.1) || (backToKw pos (keywordEach kws X.env)).any (·.1.isNone)) = false := by rfl) :
    wE X (.Call (.Name x p) (e :: es) kws pos) τ h Q := by
  obtain ⟨f, fd, ps, hm, hk, F, hb, hdd⟩ := F.ex
  intro pins s σ H I r b
  refine wpAny_Call_Name_kw (ld_glob I (C.gl x hg) hm ?_ (C.db x (List.mem_append_right _ hg)).1)
  refine PySem.W.callWith_KW (h₀ := X.base) I.ok.mod.kin hk hall (thn (w pos pins s σ H I r b) fun us s0 ⟨vs, H0, ds, h0, I0, rv, t0, n0, b0, w2⟩ => ?_) hpl he
  refine thn (w2 pos pins s0 σ H0 I0 (r.mono t0) b0) fun ws s1 ⟨zs, H1, es, h1, I1, rz, t1, n1, b1, l1, l2, z⟩ => ⟨I1.kIn, ?_⟩
  rw [hks]
  refine thn (run_fnKD (E := WE (wX X W)) (Q := kE X H1 Q) F hr hb (passAt tk σ) I1 rv rz (n0.length.trans l1) (n1.length.trans l2) ?_) fun u s' => EPD.of (t0.trans t1)
  exact ⟨_, h1, _, _, hdd H1 _ _ _ _ (n0.mono t1) n1, b1, z, fun v H' d h' t n b' q => ⟨d, h', t, n, b', q⟩, fun C od fs H' h' t xd b' q => ⟨C, fs, τ, h', rfl, xd, r.mono ((t0.trans t1).trans t), b', q⟩⟩
end
/-! ### binding -/
section
variable {K : PySem.W.Frag} {x qual : Str} {params : Arguments} {body : List Stmt} {scope : Scope} {dvs : List V} {kws : List (Str × V)} {f : Addr} {fd : FuncData} {ps : List Str}
/-- keywords, no defaults -/
theorem kb_none {n : Nat} {ks : List Str} {g : {α : Type} → List α → List α → List α} (F : FunD K x qual params body scope [] kws f fd)
    (h : ∀ (kV doc pm : Value) (an : Option Addr) (cdv ct : Value) (us ws : List Value), us.length = n → ws.length = ks.length → bindArgs (PySem.W.fnOf x qual params body scope .none kV doc pm an cdv ct) ⟨us, ks.zip ws⟩ = pure (ps.zip (g us ws)))
    (hrel : ∀ {vs : List V} {us : List Value} {zs : List V} {ws : List Value}, Vals vs us → Vals zs ws → Vals (g vs zs) (g us ws)) : KBn K fd ps n ks (fun us ws => g us ws) (fun vs zs => g vs zs) := by
  obtain ⟨oc, od, dV, kV, doc, pm, an, cdv, ct, osl, rfl, lk, hcd, hD, hK⟩ := F.ex
  rcases hD with ⟨_, rfl⟩ | ⟨e, _⟩
  · exact ⟨fun s us ws _ l1 l2 => .of_eq (h kV doc pm an cdv ct us ws l1 l2), hrel⟩
  · exact absurd rfl e
/-- keywords, every parameter is given though it has a default -/
theorem kb_all {n : Nat} {ks : List Str} {g : {α : Type} → List α → List α → List α} (F : FunD K x qual params body scope dvs kws f fd) (hd : dvs ≠ [])
    (h : ∀ (T : Addr) (kV doc pm : Value) (an : Option Addr) (cdv ct : Value) (us ws its : List Value), us.length = n → ws.length = ks.length → its.length = dvs.length →
      ∃ k, bindArgs (PySem.W.fnOf x qual params body scope (.ref T) kV doc pm an cdv ct) ⟨us, ks.zip ws⟩ = seqItems? (.ref T) >>= k ∧ k (some its.toArray) = pure (ps.zip (g us ws)))
    (hrel : ∀ {vs : List V} {us : List Value} {zs : List V} {ws : List Value}, Vals vs us → Vals zs ws → Vals (g vs zs) (g us ws)) : KBn K fd ps n ks (fun us ws => g us ws) (fun vs zs => g vs zs) := by
  obtain ⟨oc, od, dV, kV, doc, pm, an, cdv, ct, osl, rfl, lk, hcd, hD, hK⟩ := F.ex
  rcases hD with ⟨e, _⟩ | ⟨_, T, o, its, m, rfl, lT, oT, rT⟩
  · exact absurd e hd
  · refine ⟨fun s us ws X l1 l2 => ?_, hrel⟩
    obtain ⟨k, e1, e2⟩ := h T kV doc pm an cdv ct us ws its l1 l2 rT.length.symm
    refine BindsTo.of_looks fun M => ?_
    rw [e1]
    exact looks_items X lT oT (.of_pure e2)
end
end Dv
/-! The head's facts for the layer. -/
namespace Dv
open PySem PySem.Spec PyProof.Rows L2
/-- more facts by names -/
inductive Fx where
  /-- no module name takes a built-in one -/
  | bl
  /-- an object of the module -/
  | glo (x : Str)
  /-- the module's name x is the built-in function id -/
  | blt (x : Str) (id : String)
  /-- an own exception class without __init__ -/
  | err (x : Str)
  /-- isinstance may be asked of its instances -/
  | exc (x : Str)
  | exm (x y : Str) (b : Bool)
  | kit (x y : Str) (b : Bool)
  | kitT (x : Str) (n : String) (b : Bool)
def excCB (K : PySem.W.Frag) (D : Addr) : Bool :=
  decide (PySem.W.findIn K (.ref D) "__getattribute__" = some (some (.builtin "BaseException.__getattribute__"))) && (decide (PySem.W.findIn K (.ref D) "__getattr__" = some none) &&
  (decide (PySem.W.subIn K (.ref D) (.type "BaseException") = some true) && (PySem.W.hasDictIn K D && (decide (PySem.W.findIn K (.ref D) "__class__" = some (some (.builtin "object.__class__"))) &&
  (decide (PySem.W.specialIn K (.builtin "object.__class__") "__get__" = some (some (.builtin "getset_descriptor.__get__"))) && (decide (PySem.W.takesIn K (.builtin "object.__class__") = some true) && decide (PySem.W.mroIn K D (.type "object") = some true)))))))
def Fx.ok (K : PySem.W.Frag) : Fx → Bool
  | .bl => BL.all fun x => (He.Fa.free x).ok K
  | .glo x => (He.Fa.glo x).ok K
  | .blt x id => decide (PySem.W.nsIn K mainGlobals x = some (some (.builtin id)))
  | .err x => (He.Fa.glo x).ok K && (He.Fa.exc x).ok K
  | .exc x => excCB K (He.ga K x)
  | .exm x y b => (He.Fa.exm x y b).ok K
  | .kit x y b => decide (PySem.W.kitOne K (.ref (He.ga K x)) (.ref (He.ga K y)) = some b)
  | .kitT x n b => decide (PySem.W.kitOne K (.ref (He.ga K x)) (.type n) = some b)
section
variable {K : PySem.W.Frag} {h : Heap} {mg : Str → Option Value}
theorem fx_bl (X : K.In h) (G : h.Ns mainGlobals mg) (c : Fx.bl.ok K = true) : ∀ x ∈ BL, mg x = none := fun x hx => He.free_ok X G (List.all_eq_true.mp c x hx)
theorem fx_glo (X : K.In h) (G : h.Ns mainGlobals mg) {x : Str} (c : (Fx.glo x).ok K = true) : mg x = some (.ref (He.ga K x)) := He.glo_ok X G c
theorem fx_blt (X : K.In h) (G : h.Ns mainGlobals mg) {x : Str} {id : String} (c : (Fx.blt x id).ok K = true) : mg x = some (.builtin id) := PySem.W.mg_of X G (of_decide_eq_true c)
theorem fx_err (X : K.In h) (G : h.Ns mainGlobals mg) {x : Str} (c : (Fx.err x).ok K = true) : ErrC K mg x (He.ga K x) := by
  obtain ⟨c1, c2⟩ := He.ba c
  obtain ⟨e1, e2, e3, e4⟩ := He.exc_ok c2
  exact ⟨He.glo_ok X G c1, e1, e2, e3, e4⟩
theorem fx_exc {x : Str} (c : (Fx.exc x).ok K = true) : ExcC K (He.ga K x) := by
  obtain ⟨c1, c⟩ := He.ba c
  obtain ⟨c2, c⟩ := He.ba c
  obtain ⟨c3, c⟩ := He.ba c
  obtain ⟨c4, c⟩ := He.ba c
  obtain ⟨c5, c⟩ := He.ba c
  obtain ⟨c6, c⟩ := He.ba c
  obtain ⟨c7, c8⟩ := He.ba c
  exact ⟨of_decide_eq_true c1, of_decide_eq_true c2, of_decide_eq_true c3, c4, of_decide_eq_true c5, of_decide_eq_true c6, of_decide_eq_true c7, of_decide_eq_true c8⟩
theorem fx_exm {x y : Str} {b : Bool} (c : (Fx.exm x y b).ok K = true) : PySem.W.exmOne K (.ref (He.ga K x)) (.ref (He.ga K y)) = some b := He.exm_ok c
theorem fx_kit {x y : Str} {b : Bool} (c : (Fx.kit x y b).ok K = true) : PySem.W.kitOne K (.ref (He.ga K x)) (.ref (He.ga K y)) = some b := of_decide_eq_true c
theorem fx_kitT {x : Str} {n : String} {b : Bool} (c : (Fx.kitT x n b).ok K = true) : PySem.W.kitOne K (.ref (He.ga K x)) (.type n) = some b := of_decide_eq_true c
end
/-! ### the Hook -/
def obsX (fx : List Fx) (fn : List He.DefD) (K : PySem.W.Frag) : He.AlD := (fx.all (fun f => f.ok K) && fn.all fun d => d.ok K, fn.map fun d => He.fnW K d.at_)
def SaysX (fx : List Fx) (fn : List He.DefD) (K : PySem.W.Frag) : Prop := obsX fx fn K = He.valD fn
def obsXG (n : Nat) (fx : List Fx) (fn : List He.DefD) (g : Addr → Option Obj) : He.AlD := obsX fx fn (He.frG g (He.asD g n))
def hookX (n : Nat) (fx : List Fx) (fn : List He.DefD) : PySem.W.Hook where
  α := He.AlD
  obs := fun s => obsXG n fx fn s.heap.get?
  val := fun _ => He.valD fn
  says := fun _ h => ∃ K : PySem.W.Frag, K.In h ∧ SaysX fx fn K
  of := fun _ _ e => ⟨_, He.frG_in, e⟩
  keeps := fun _ _ _ ⟨K, hK, c⟩ k => ⟨K, PySem.W.Frag.In.keeps hK k, c⟩
theorem obsXG_eq {n : Nat} {fx : List Fx} {fn : List He.DefD} {g : Addr → Option Obj} {s : Shared} (h : ∀ a, g a = s.heap.get? a) : obsXG n fx fn g = (hookX n fx fn).obs s := by
  have e : g = s.heap.get? := funext h
  rw [e] <;> rfl
section
variable {fx : List Fx} {fn : List He.DefD} {K : PySem.W.Frag}
theorem SaysX.fact (c : SaysX fx fn K) (i : Nat) {f : Fx} (h : fx[i]? = some f := by rfl) : f.ok K = true := by
  have c1 := (He.ba (show ((fx.all fun f => f.ok K) && fn.all fun d => d.ok K) = true from congrArg (fun z : He.AlD => z.1) c)).1
  exact List.all_eq_true.mp c1 f (List.mem_of_getElem? h)
theorem SaysX.def_ (c : SaysX fx fn K) (i : Nat) {d : He.DefD} (h : fn[i]? = some d := by rfl) : ∃ fd, FunD K d.name d.qual d.params d.body d.scope (d.dvs K) (d.kws K) (He.fAd K d.at_) fd := by
  have c2 := (He.ba (show ((fx.all fun f => f.ok K) && fn.all fun d => d.ok K) = true from congrArg (fun z : He.AlD => z.1) c)).2
  have e : fn.map (fun d => He.fnW K d.at_) = fn.map He.DefD.val := congrArg (fun z : He.AlD => z.2) c
  have e2 : (fn.map fun d => He.fnW K d.at_)[i]? = (fn.map He.DefD.val)[i]? := by rw [e]
  rw [List.getElem?_map, List.getElem?_map, h] at e2
  exact He.DefD.funD (Option.some.inj e2) (List.all_eq_true.mp c2 d (List.mem_of_getElem? h))
end
/-! ### promises by names -/
section
variable {P : Program} {w : World} {K : PySem.W.Frag} {mg : Str → Option Value} {base : Heap} {x qual : Str} {params : Arguments} {body : List Stmt} {scope : Scope} {dvs : List V} {kws : List (Str × V)} {f : Addr} {fd : FuncData} {ps : List Str} {lv : Nat} {sp : SpD}
/-- every parameter is given -/
theorem FnG.all (F : FunD K x qual params body scope [] kws f fd) (hm : mg x = some (.ref f)) (ok : FnOk P w K mg base (L2.CX P w) lv f fd ps (spOf K sp))
    (h : ∀ (kV doc pm : Value) (an : Option Addr) (cdv ct : Value) (us : List Value), us.length = ps.length → bindArgs (PySem.W.fnOf x qual params body scope .none kV doc pm an cdv ct) ⟨us, []⟩ = pure (ps.zip us)) : FnG P w K mg base x [] lv sp :=
  ⟨f, fd, ps, [], [], hm, F.kp, ok, F.bindsN h, .nil, fun H => .nil⟩
/-- n are given, the defaults behind the first j fill up; dd: what these are -/
theorem FnG.dfl (F : FunD K x qual params body scope dvs kws f fd) (hm : mg x = some (.ref f)) (ok : FnOk P w K mg base (L2.CX P w) lv f fd ps (spOf K sp)) (n j : Nat) (dd : List D) (hd : dvs ≠ []) (hn : n + (dvs.length - j) = ps.length)
    (h : ∀ (T : Addr) (kV doc pm : Value) (an : Option Addr) (cdv ct : Value) (us its : List Value), us.length = n → its.length = dvs.length →
      ∃ k, bindArgs (PySem.W.fnOf x qual params body scope (.ref T) kV doc pm an cdv ct) ⟨us, []⟩ = seqItems? (.ref T) >>= k ∧ k (some its.toArray) = pure (ps.zip (us ++ its.drop j)))
    (hdd : ∀ H : Hp, DnA K H (dvs.drop j) dd) : FnG P w K mg base x dd lv sp := by
  obtain ⟨ds, r, b⟩ := F.binds1 n j hd hn h
  exact ⟨f, fd, ps, _, ds, hm, F.kp, ok, b, r, hdd⟩
theorem FnK.none {n : Nat} {ks : List Str} {g : {α : Type} → List α → List α → List α} (F : FunD K x qual params body scope [] kws f fd) (hm : mg x = some (.ref f)) (ok : FnOk P w K mg base (L2.CX P w) lv f fd ps (spOf K sp))
    (h : ∀ (kV doc pm : Value) (an : Option Addr) (cdv ct : Value) (us ws : List Value), us.length = n → ws.length = ks.length → bindArgs (PySem.W.fnOf x qual params body scope .none kV doc pm an cdv ct) ⟨us, ks.zip ws⟩ = pure (ps.zip (g us ws)))
    (hrel : ∀ {vs : List V} {us : List Value} {zs : List V} {ws : List Value}, Vals vs us → Vals zs ws → Vals (g vs zs) (g us ws))
    (hdn : ∀ (H : Hp) vs ds zs es, DnA K H vs ds → DnA K H zs es → DnA K H (g vs zs) (g ds es)) : FnK P w K mg base x n ks g lv sp :=
  ⟨f, fd, ps, hm, F.kp, ok, kb_none F h hrel, hdn⟩
theorem FnK.all {n : Nat} {ks : List Str} {g : {α : Type} → List α → List α → List α} (F : FunD K x qual params body scope dvs kws f fd) (hm : mg x = some (.ref f)) (ok : FnOk P w K mg base (L2.CX P w) lv f fd ps (spOf K sp)) (hd : dvs ≠ [])
    (h : ∀ (T : Addr) (kV doc pm : Value) (an : Option Addr) (cdv ct : Value) (us ws its : List Value), us.length = n → ws.length = ks.length → its.length = dvs.length →
      ∃ k, bindArgs (PySem.W.fnOf x qual params body scope (.ref T) kV doc pm an cdv ct) ⟨us, ks.zip ws⟩ = seqItems? (.ref T) >>= k ∧ k (some its.toArray) = pure (ps.zip (g us ws)))
    (hrel : ∀ {vs : List V} {us : List Value} {zs : List V} {ws : List Value}, Vals vs us → Vals zs ws → Vals (g vs zs) (g us ws))
    (hdn : ∀ (H : Hp) vs ds zs es, DnA K H vs ds → DnA K H zs es → DnA K H (g vs zs) (g ds es)) : FnK P w K mg base x n ks g lv sp :=
  ⟨f, fd, ps, hm, F.kp, ok, kb_all F hd h hrel, hdn⟩
end
/-- a script at the law's entry -/
theorem scr_dn {K : PySem.W.Frag} {H : Hp} {a : Addr} {ns : List Int} (O : Only H) (h : SqL K H a (ns.map V.int)) : Dn K H (.ref a) (.fz (ns.map D.int)) := by
  refine .fz ?_ (.of_ints ns)
  rcases h with (h | h) | h
  · rcases O a with e | ⟨o, xs, e⟩
    · rw [h] at e
      cases e
    · rw [h] at e
      cases e
  · exact .inl h
  · exact .inr h
/-- a law's end: F gives the written part, the def, its promise -/
theorem walk_law {l : PySem.W.OpenLaw} {n k : Nat} {q : Program} {loose : List Str} {XP : (Str → Option Value) → Heap → Prop} {fx : List Fx} {fn : List He.DefD} {lev : Nat} {d : DefRec} {x : Str} {sp : SpD}
    (hn : l.most = some n) (hn2 : n ≤ sizeLine) (hdf : d.params.defaults = []) (hr : Room k callerA)
    (F : ∀ (w : World) (mg : Str → Option Value) (fa : Addr) (h : Heap) (K : PySem.W.Frag), K.In h → h.Ns mainGlobals mg → mg d.name = some (.ref fa) → SaysX fx fn K →
      ∃ fd : FuncData, (∀ (s : Shared) (u : Value), BindsTo s fd ⟨[u], []⟩ [(x, u)]) ∧ ∀ base : Heap, FnOk l.prog w K mg base (L2.CX l.prog w) k fa fd [x] (spOf K sp))
    (S : ∀ (ns : List Int) (h : HD), ns.length ≤ n → (∀ z ∈ ns, Builtin.Int.intBits z ≤ 1048576) → sp [.fz (ns.map D.int)] h (fun d _ => d = .bl true) fun _ _ _ => False) :
    PySem.W.WalkO q loose XP (hookX lev fx fn).says l.row.toRowW d [] (fun f vs => PySem.call f vs) := by
  refine Att.attach_callB hn hdf fun w s₀ s₁ mg mb fa o pm cd doc a vs ns G Y ho hd hcd hmg hobj hints hlen hbits hg => ?_
  obtain ⟨K, KX, c⟩ := Y
  obtain ⟨fd, hb, hF⟩ := F w mg fa _ K KX G.T.g hmg c
  refine law_call KX G.T.g G.T.b G.T.builtins G.T.nolimit hg hobj hints (Nat.le_trans hlen hn2) hr (fun base _ _ => hF base) hb (fun H hO hS => ?_) fun H e s' ⟨_, _, _, _, _, _, _, _, _, _, _, _, z⟩ => z
  refine ⟨_, fun _ => none, _, _, .cons (scr_dn hO hS) .nil, fun _ _ e => (nomatch e), S ns _ hlen hbits, ?_, fun _ _ _ _ _ _ _ _ z => z⟩
  rintro v H' d h' _ n _ rfl
  cases n
  rfl
end Dv
namespace K0
open PySem PySem.Spec PyProof.Rows L2 Dv
def topS (i : Nat) : Stmt := PySem.Challenge.pw_rowtower_k00_fractions_in_lowest_form.main.body.getD i (.Pass ⟨0, 0, 0, 0⟩)
abbrev s_fraction : Stmt := topS 6
abbrev N_fraction : List Str := ["n", "d", "common"]
abbrev G_fraction : List Str := ["ZeroDivisor", "gcd"]
theorem sc_fraction : FnScope N_fraction ["n", "d"] (defScope s_fraction) := ⟨rfl, rfl, rfl, by decide +kernel, rfl, by decide +kernel, by decide +kernel⟩
theorem sb_fraction : scB (defScope s_fraction) N_fraction G_fraction = true := by decide +kernel
abbrev s_frac_sum : Stmt := topS 7
abbrev N_frac_sum : List Str := ["x", "y"]
abbrev G_frac_sum : List Str := ["fraction"]
theorem sc_frac_sum : FnScope N_frac_sum ["x", "y"] (defScope s_frac_sum) := ⟨rfl, rfl, rfl, by decide +kernel, rfl, by decide +kernel, by decide +kernel⟩
theorem sb_frac_sum : scB (defScope s_frac_sum) N_frac_sum G_frac_sum = true := by decide +kernel
abbrev s_frac_difference : Stmt := topS 8
abbrev N_frac_difference : List Str := ["x", "y"]
abbrev G_frac_difference : List Str := ["frac_sum"]
theorem sc_frac_difference : FnScope N_frac_difference ["x", "y"] (defScope s_frac_difference) := ⟨rfl, rfl, rfl, by decide +kernel, rfl, by decide +kernel, by decide +kernel⟩
theorem sb_frac_difference : scB (defScope s_frac_difference) N_frac_difference G_frac_difference = true := by decide +kernel
abbrev s_frac_product : Stmt := topS 9
abbrev N_frac_product : List Str := ["x", "y"]
abbrev G_frac_product : List Str := ["fraction"]
theorem sc_frac_product : FnScope N_frac_product ["x", "y"] (defScope s_frac_product) := ⟨rfl, rfl, rfl, by decide +kernel, rfl, by decide +kernel, by decide +kernel⟩
theorem sb_frac_product : scB (defScope s_frac_product) N_frac_product G_frac_product = true := by decide +kernel
abbrev s_frac_quotient : Stmt := topS 10
abbrev N_frac_quotient : List Str := ["x", "y"]
abbrev G_frac_quotient : List Str := ["ZeroDivisor", "fraction"]
theorem sc_frac_quotient : FnScope N_frac_quotient ["x", "y"] (defScope s_frac_quotient) := ⟨rfl, rfl, rfl, by decide +kernel, rfl, by decide +kernel, by decide +kernel⟩
theorem sb_frac_quotient : scB (defScope s_frac_quotient) N_frac_quotient G_frac_quotient = true := by decide +kernel
abbrev s_compare : Stmt := topS 11
abbrev N_compare : List Str := ["x", "y", "left", "right"]
abbrev G_compare : List Str := []
theorem sc_compare : FnScope N_compare ["x", "y"] (defScope s_compare) := ⟨rfl, rfl, rfl, by decide +kernel, rfl, by decide +kernel, by decide +kernel⟩
theorem sb_compare : scB (defScope s_compare) N_compare G_compare = true := by decide +kernel
abbrev s_law_box : Stmt := topS 13
abbrev N_law_box : List Str := ["script", "k", "cell"]
abbrev G_law_box : List Str := ["abs", "int", "len", "sum"]
theorem sc_law_box : FnScope N_law_box ["script", "k"] (defScope s_law_box) := ⟨rfl, rfl, rfl, by decide +kernel, rfl, by decide +kernel, by decide +kernel⟩
theorem sb_law_box : scB (defScope s_law_box) N_law_box G_law_box = true := by decide +kernel
abbrev s_law_take : Stmt := topS 14
abbrev N_law_take : List Str := ["box", "many", "told", "mixed"]
abbrev G_law_take : List Str := ["int"]
theorem sc_law_take : FnScope N_law_take ["box", "many"] (defScope s_law_take) := ⟨rfl, rfl, rfl, by decide +kernel, rfl, by decide +kernel, by decide +kernel⟩
theorem sb_law_take : scB (defScope s_law_take) N_law_take G_law_take = true := by decide +kernel
abbrev s_law_long : Stmt := topS 15
abbrev N_law_long : List Str := ["box", "pieces", "told", "k"]
abbrev G_law_long : List Str := ["_law_take", "range"]
theorem sc_law_long : FnScope N_law_long ["box", "pieces"] (defScope s_law_long) := ⟨rfl, rfl, rfl, by decide +kernel, rfl, by decide +kernel, by decide +kernel⟩
theorem sb_law_long : scB (defScope s_law_long) N_law_long G_law_long = true := by decide +kernel
abbrev s_law_number : Stmt := topS 16
abbrev N_law_number : List Str := ["box", "pieces", "bound", "way", "told"]
abbrev G_law_number : List Str := ["_law_long", "_law_take"]
theorem sc_law_number : FnScope N_law_number ["box", "pieces", "bound"] (defScope s_law_number) := ⟨rfl, rfl, rfl, by decide +kernel, rfl, by decide +kernel, by decide +kernel⟩
theorem sb_law_number : scB (defScope s_law_number) N_law_number G_law_number = true := by decide +kernel
abbrev s_law_gcd : Stmt := topS 17
abbrev N_law_gcd : List Str := ["a", "b", "rest"]
abbrev G_law_gcd : List Str := ["abs", "int"]
theorem sc_law_gcd : FnScope N_law_gcd ["a", "b"] (defScope s_law_gcd) := ⟨rfl, rfl, rfl, by decide +kernel, rfl, by decide +kernel, by decide +kernel⟩
theorem sb_law_gcd : scB (defScope s_law_gcd) N_law_gcd G_law_gcd = true := by decide +kernel
abbrev s_law_lowest : Stmt := topS 18
abbrev N_law_lowest : List Str := ["top", "low", "shared"]
abbrev G_law_lowest : List Str := ["_law_gcd"]
theorem sc_law_lowest : FnScope N_law_lowest ["top", "low"] (defScope s_law_lowest) := ⟨rfl, rfl, rfl, by decide +kernel, rfl, by decide +kernel, by decide +kernel⟩
theorem sb_law_lowest : scB (defScope s_law_lowest) N_law_lowest G_law_lowest = true := by decide +kernel
abbrev s_law_is_integer : Stmt := topS 19
abbrev N_law_is_integer : List Str := ["told"]
abbrev G_law_is_integer : List Str := ["bool", "int", "isinstance"]
theorem sc_law_is_integer : FnScope N_law_is_integer ["told"] (defScope s_law_is_integer) := ⟨rfl, rfl, rfl, by decide +kernel, rfl, by decide +kernel, by decide +kernel⟩
theorem sb_law_is_integer : scB (defScope s_law_is_integer) N_law_is_integer G_law_is_integer = true := by decide +kernel
abbrev s_law_is : Stmt := topS 20
abbrev N_law_is : List Str := ["told", "top", "low"]
abbrev G_law_is : List Str := ["_law_gcd", "_law_is_integer", "isinstance", "len", "tuple"]
theorem sc_law_is : FnScope N_law_is ["told", "top", "low"] (defScope s_law_is) := ⟨rfl, rfl, rfl, by decide +kernel, rfl, by decide +kernel, by decide +kernel⟩
theorem sb_law_is : scB (defScope s_law_is) N_law_is G_law_is = true := by decide +kernel
abbrev s_law_drawn : Stmt := topS 21
abbrev N_law_drawn : List Str := ["script", "place", "top", "low"]
abbrev G_law_drawn : List Str := ["_law_box", "_law_lowest", "_law_number", "abs"]
theorem sc_law_drawn : FnScope N_law_drawn ["script", "place"] (defScope s_law_drawn) := ⟨rfl, rfl, rfl, by decide +kernel, rfl, by decide +kernel, by decide +kernel⟩
theorem sb_law_drawn : scB (defScope s_law_drawn) N_law_drawn G_law_drawn = true := by decide +kernel
abbrev s_law_second : Stmt := topS 22
abbrev N_law_second : List Str := ["script", "place", "one", "way"]
abbrev G_law_second : List Str := ["_law_box", "_law_drawn", "_law_lowest", "_law_take", "int"]
theorem sc_law_second : FnScope N_law_second ["script", "place", "one"] (defScope s_law_second) := ⟨rfl, rfl, rfl, by decide +kernel, rfl, by decide +kernel, by decide +kernel⟩
theorem sb_law_second : scB (defScope s_law_second) N_law_second G_law_second = true := by decide +kernel
abbrev s_law_divided : Stmt := topS 23
abbrev N_law_divided : List Str := ["top", "low", "told", "raised", "e"]
abbrev G_law_divided : List Str := ["RowError", "ValueError", "ZeroDivisor", "ZeroPolynomial", "_law_is", "fraction", "isinstance"]
theorem sc_law_divided : FnScope N_law_divided ["top", "low"] (defScope s_law_divided) := ⟨rfl, rfl, rfl, by decide +kernel, rfl, by decide +kernel, by decide +kernel⟩
theorem sb_law_divided : scB (defScope s_law_divided) N_law_divided G_law_divided = true := by decide +kernel
abbrev s_law_quotient : Stmt := topS 24
abbrev N_law_quotient : List Str := ["one", "two", "told", "raised", "e"]
abbrev G_law_quotient : List Str := ["RowError", "ValueError", "ZeroDivisor", "ZeroPolynomial", "_law_is", "frac_quotient", "isinstance"]
theorem sc_law_quotient : FnScope N_law_quotient ["one", "two"] (defScope s_law_quotient) := ⟨rfl, rfl, rfl, by decide +kernel, rfl, by decide +kernel, by decide +kernel⟩
theorem sb_law_quotient : scB (defScope s_law_quotient) N_law_quotient G_law_quotient = true := by decide +kernel
abbrev s_law_compared : Stmt := topS 25
abbrev N_law_compared : List Str := ["one", "two", "side", "due", "ahead", "back"]
abbrev G_law_compared : List Str := ["_law_is_integer", "compare", "int"]
theorem sc_law_compared : FnScope N_law_compared ["one", "two"] (defScope s_law_compared) := ⟨rfl, rfl, rfl, by decide +kernel, rfl, by decide +kernel, by decide +kernel⟩
theorem sb_law_compared : scB (defScope s_law_compared) N_law_compared G_law_compared = true := by decide +kernel
abbrev s_law_numbers : Stmt := topS 26
abbrev N_law_numbers : List Str := ["script", "place", "box", "top", "low", "shared"]
abbrev G_law_numbers : List Str := ["_law_box", "_law_long", "_law_number", "_law_take"]
theorem sc_law_numbers : FnScope N_law_numbers ["script", "place"] (defScope s_law_numbers) := ⟨rfl, rfl, rfl, by decide +kernel, rfl, by decide +kernel, by decide +kernel⟩
theorem sb_law_numbers : scB (defScope s_law_numbers) N_law_numbers G_law_numbers = true := by decide +kernel
abbrev s_law_operations : Stmt := topS 27
abbrev N_law_operations : List Str := ["one", "two"]
abbrev G_law_operations : List Str := ["_law_is", "_law_quotient", "frac_difference", "frac_product", "frac_sum"]
theorem sc_law_operations : FnScope N_law_operations ["one", "two"] (defScope s_law_operations) := ⟨rfl, rfl, rfl, by decide +kernel, rfl, by decide +kernel, by decide +kernel⟩
theorem sb_law_operations : scB (defScope s_law_operations) N_law_operations G_law_operations = true := by decide +kernel
abbrev s_law_by_hand : Stmt := topS 28
abbrev N_law_by_hand : List Str := []
abbrev G_law_by_hand : List Str := ["_law_divided", "_law_is", "_law_quotient", "frac_difference", "fraction"]
theorem sc_law_by_hand : FnScope N_law_by_hand [] (defScope s_law_by_hand) := ⟨rfl, rfl, rfl, by decide +kernel, rfl, by decide +kernel, by decide +kernel⟩
theorem sb_law_by_hand : scB (defScope s_law_by_hand) N_law_by_hand G_law_by_hand = true := by decide +kernel
abbrev s_law : Stmt := topS 29
abbrev N_law : List Str := ["script", "turn", "place", "pair", "one", "two"]
abbrev G_law : List Str := ["_law_box", "_law_by_hand", "_law_compared", "_law_divided", "_law_drawn", "_law_is", "_law_numbers", "_law_operations", "_law_second", "_law_take", "fraction", "range"]
theorem sc_law : FnScope N_law ["script"] (defScope s_law) := ⟨rfl, rfl, rfl, by decide +kernel, rfl, by decide +kernel, by decide +kernel⟩
theorem sb_law : scB (defScope s_law) N_law G_law = true := by decide +kernel
local macro_rules | `(tactic| walk_at "dv at") => `(tactic| with_reducible first | exact At.here | exact (At.there At.here) | exact (At.there (At.there At.here)) | exact (At.there (At.there (At.there At.here))) | exact (At.there (At.there (At.there (At.there At.here)))) | exact (At.there (At.there (At.there (At.there (At.there At.here))))) | exact (At.there (At.there (At.there (At.there (At.there (At.there At.here)))))) | exact (At.there (At.there (At.there (At.there (At.there (At.there (At.there At.here))))))) | exact (At.there (At.there (At.there (At.there (At.there (At.there (At.there (At.there At.here)))))))) | exact (At.there (At.there (At.there (At.there (At.there (At.there (At.there (At.there (At.there At.here))))))))) | exact (At.there (At.there (At.there (At.there (At.there (At.there (At.there (At.there (At.there (At.there At.here)))))))))) | exact (At.there (At.there (At.there (At.there (At.there (At.there (At.there (At.there (At.there (At.there (At.there At.here))))))))))) | exact (At.there (At.there (At.there (At.there (At.there (At.there (At.there (At.there (At.there (At.there (At.there (At.there At.here)))))))))))) | exact (At.there (At.there (At.there (At.there (At.there (At.there (At.there (At.there (At.there (At.there (At.there (At.there (At.there At.here))))))))))))) | exact (At.there (At.there (At.there (At.there (At.there (At.there (At.there (At.there (At.there (At.there (At.there (At.there (At.there (At.there At.here)))))))))))))) | exact (At.there (At.there (At.there (At.there (At.there (At.there (At.there (At.there (At.there (At.there (At.there (At.there (At.there (At.there (At.there At.here))))))))))))))) | exact (At.there (At.there (At.there (At.there (At.there (At.there (At.there (At.there (At.there (At.there (At.there (At.there (At.there (At.there (At.there (At.there At.here)))))))))))))))) | exact (At.there (At.there (At.there (At.there (At.there (At.there (At.there (At.there (At.there (At.there (At.there (At.there (At.there (At.there (At.there (At.there (At.there At.here))))))))))))))))) | exact (At.there (At.there (At.there (At.there (At.there (At.there (At.there (At.there (At.there (At.there (At.there (At.there (At.there (At.there (At.there (At.there (At.there (At.there At.here)))))))))))))))))) | exact (At.there (At.there (At.there (At.there (At.there (At.there (At.there (At.there (At.there (At.there (At.there (At.there (At.there (At.there (At.there (At.there (At.there (At.there (At.there At.here))))))))))))))))))) | exact (At.there (At.there (At.there (At.there (At.there (At.there (At.there (At.there (At.there (At.there (At.there (At.there (At.there (At.there (At.there (At.there (At.there (At.there (At.there (At.there At.here)))))))))))))))))))) | exact (At.there (At.there (At.there (At.there (At.there (At.there (At.there (At.there (At.there (At.there (At.there (At.there (At.there (At.there (At.there (At.there (At.there (At.there (At.there (At.there (At.there At.here))))))))))))))))))))) | exact (At.there (At.there (At.there (At.there (At.there (At.there (At.there (At.there (At.there (At.there (At.there (At.there (At.there (At.there (At.there (At.there (At.there (At.there (At.there (At.there (At.there (At.there At.here)))))))))))))))))))))) | exact (At.there (At.there (At.there (At.there (At.there (At.there (At.there (At.there (At.there (At.there (At.there (At.there (At.there (At.there (At.there (At.there (At.there (At.there (At.there (At.there (At.there (At.there (At.there At.here))))))))))))))))))))))) | exact (At.there (At.there (At.there (At.there (At.there (At.there (At.there (At.there (At.there (At.there (At.there (At.there (At.there (At.there (At.there (At.there (At.there (At.there (At.there (At.there (At.there (At.there (At.there (At.there At.here)))))))))))))))))))))))) | exact (At.there (At.there (At.there (At.there (At.there (At.there (At.there (At.there (At.there (At.there (At.there (At.there (At.there (At.there (At.there (At.there (At.there (At.there (At.there (At.there (At.there (At.there (At.there (At.there (At.there At.here))))))))))))))))))))))))))
local macro_rules | `(tactic| walk_at "dv put") => `(tactic| with_reducible first | exact fun _ => Put.here | exact fun _ => (Put.there Put.here) | exact fun _ => (Put.there (Put.there Put.here)) | exact fun _ => (Put.there (Put.there (Put.there Put.here))) | exact fun _ => (Put.there (Put.there (Put.there (Put.there Put.here)))) | exact fun _ => (Put.there (Put.there (Put.there (Put.there (Put.there Put.here))))) | exact fun _ => (Put.there (Put.there (Put.there (Put.there (Put.there (Put.there Put.here)))))) | exact fun _ => (Put.there (Put.there (Put.there (Put.there (Put.there (Put.there (Put.there Put.here))))))) | exact fun _ => (Put.there (Put.there (Put.there (Put.there (Put.there (Put.there (Put.there (Put.there Put.here)))))))) | exact fun _ => (Put.there (Put.there (Put.there (Put.there (Put.there (Put.there (Put.there (Put.there (Put.there Put.here))))))))) | exact fun _ => (Put.there (Put.there (Put.there (Put.there (Put.there (Put.there (Put.there (Put.there (Put.there (Put.there Put.here)))))))))) | exact fun _ => (Put.there (Put.there (Put.there (Put.there (Put.there (Put.there (Put.there (Put.there (Put.there (Put.there (Put.there Put.here))))))))))) | exact fun _ => (Put.there (Put.there (Put.there (Put.there (Put.there (Put.there (Put.there (Put.there (Put.there (Put.there (Put.there (Put.there Put.here)))))))))))) | exact fun _ => (Put.there (Put.there (Put.there (Put.there (Put.there (Put.there (Put.there (Put.there (Put.there (Put.there (Put.there (Put.there (Put.there Put.here))))))))))))) | exact fun _ => (Put.there (Put.there (Put.there (Put.there (Put.there (Put.there (Put.there (Put.there (Put.there (Put.there (Put.there (Put.there (Put.there (Put.there Put.here)))))))))))))) | exact fun _ => (Put.there (Put.there (Put.there (Put.there (Put.there (Put.there (Put.there (Put.there (Put.there (Put.there (Put.there (Put.there (Put.there (Put.there (Put.there Put.here))))))))))))))) | exact fun _ => (Put.there (Put.there (Put.there (Put.there (Put.there (Put.there (Put.there (Put.there (Put.there (Put.there (Put.there (Put.there (Put.there (Put.there (Put.there (Put.there Put.here)))))))))))))))) | exact fun _ => (Put.there (Put.there (Put.there (Put.there (Put.there (Put.there (Put.there (Put.there (Put.there (Put.there (Put.there (Put.there (Put.there (Put.there (Put.there (Put.there (Put.there Put.here))))))))))))))))) | exact fun _ => (Put.there (Put.there (Put.there (Put.there (Put.there (Put.there (Put.there (Put.there (Put.there (Put.there (Put.there (Put.there (Put.there (Put.there (Put.there (Put.there (Put.there (Put.there Put.here)))))))))))))))))) | exact fun _ => (Put.there (Put.there (Put.there (Put.there (Put.there (Put.there (Put.there (Put.there (Put.there (Put.there (Put.there (Put.there (Put.there (Put.there (Put.there (Put.there (Put.there (Put.there (Put.there Put.here))))))))))))))))))) | exact fun _ => (Put.there (Put.there (Put.there (Put.there (Put.there (Put.there (Put.there (Put.there (Put.there (Put.there (Put.there (Put.there (Put.there (Put.there (Put.there (Put.there (Put.there (Put.there (Put.there (Put.there Put.here)))))))))))))))))))) | exact fun _ => (Put.there (Put.there (Put.there (Put.there (Put.there (Put.there (Put.there (Put.there (Put.there (Put.there (Put.there (Put.there (Put.there (Put.there (Put.there (Put.there (Put.there (Put.there (Put.there (Put.there (Put.there Put.here))))))))))))))))))))) | exact fun _ => (Put.there (Put.there (Put.there (Put.there (Put.there (Put.there (Put.there (Put.there (Put.there (Put.there (Put.there (Put.there (Put.there (Put.there (Put.there (Put.there (Put.there (Put.there (Put.there (Put.there (Put.there (Put.there Put.here)))))))))))))))))))))) | exact fun _ => (Put.there (Put.there (Put.there (Put.there (Put.there (Put.there (Put.there (Put.there (Put.there (Put.there (Put.there (Put.there (Put.there (Put.there (Put.there (Put.there (Put.there (Put.there (Put.there (Put.there (Put.there (Put.there (Put.there Put.here))))))))))))))))))))))) | exact fun _ => (Put.there (Put.there (Put.there (Put.there (Put.there (Put.there (Put.there (Put.there (Put.there (Put.there (Put.there (Put.there (Put.there (Put.there (Put.there (Put.there (Put.there (Put.there (Put.there (Put.there (Put.there (Put.there (Put.there (Put.there Put.here)))))))))))))))))))))))) | exact fun _ => (Put.there (Put.there (Put.there (Put.there (Put.there (Put.there (Put.there (Put.there (Put.there (Put.there (Put.there (Put.there (Put.there (Put.there (Put.there (Put.there (Put.there (Put.there (Put.there (Put.there (Put.there (Put.there (Put.there (Put.there (Put.there Put.here))))))))))))))))))))))))))
local macro_rules | `(tactic| walk_at "dv put1") => `(tactic| with_reducible first | exact Put.here | exact (Put.there Put.here) | exact (Put.there (Put.there Put.here)) | exact (Put.there (Put.there (Put.there Put.here))) | exact (Put.there (Put.there (Put.there (Put.there Put.here)))) | exact (Put.there (Put.there (Put.there (Put.there (Put.there Put.here))))) | exact (Put.there (Put.there (Put.there (Put.there (Put.there (Put.there Put.here)))))) | exact (Put.there (Put.there (Put.there (Put.there (Put.there (Put.there (Put.there Put.here))))))) | exact (Put.there (Put.there (Put.there (Put.there (Put.there (Put.there (Put.there (Put.there Put.here)))))))) | exact (Put.there (Put.there (Put.there (Put.there (Put.there (Put.there (Put.there (Put.there (Put.there Put.here))))))))) | exact (Put.there (Put.there (Put.there (Put.there (Put.there (Put.there (Put.there (Put.there (Put.there (Put.there Put.here)))))))))) | exact (Put.there (Put.there (Put.there (Put.there (Put.there (Put.there (Put.there (Put.there (Put.there (Put.there (Put.there Put.here))))))))))) | exact (Put.there (Put.there (Put.there (Put.there (Put.there (Put.there (Put.there (Put.there (Put.there (Put.there (Put.there (Put.there Put.here)))))))))))) | exact (Put.there (Put.there (Put.there (Put.there (Put.there (Put.there (Put.there (Put.there (Put.there (Put.there (Put.there (Put.there (Put.there Put.here))))))))))))) | exact (Put.there (Put.there (Put.there (Put.there (Put.there (Put.there (Put.there (Put.there (Put.there (Put.there (Put.there (Put.there (Put.there (Put.there Put.here)))))))))))))) | exact (Put.there (Put.there (Put.there (Put.there (Put.there (Put.there (Put.there (Put.there (Put.there (Put.there (Put.there (Put.there (Put.there (Put.there (Put.there Put.here))))))))))))))) | exact (Put.there (Put.there (Put.there (Put.there (Put.there (Put.there (Put.there (Put.there (Put.there (Put.there (Put.there (Put.there (Put.there (Put.there (Put.there (Put.there Put.here)))))))))))))))) | exact (Put.there (Put.there (Put.there (Put.there (Put.there (Put.there (Put.there (Put.there (Put.there (Put.there (Put.there (Put.there (Put.there (Put.there (Put.there (Put.there (Put.there Put.here))))))))))))))))) | exact (Put.there (Put.there (Put.there (Put.there (Put.there (Put.there (Put.there (Put.there (Put.there (Put.there (Put.there (Put.there (Put.there (Put.there (Put.there (Put.there (Put.there (Put.there Put.here)))))))))))))))))) | exact (Put.there (Put.there (Put.there (Put.there (Put.there (Put.there (Put.there (Put.there (Put.there (Put.there (Put.there (Put.there (Put.there (Put.there (Put.there (Put.there (Put.there (Put.there (Put.there Put.here))))))))))))))))))) | exact (Put.there (Put.there (Put.there (Put.there (Put.there (Put.there (Put.there (Put.there (Put.there (Put.there (Put.there (Put.there (Put.there (Put.there (Put.there (Put.there (Put.there (Put.there (Put.there (Put.there Put.here)))))))))))))))))))) | exact (Put.there (Put.there (Put.there (Put.there (Put.there (Put.there (Put.there (Put.there (Put.there (Put.there (Put.there (Put.there (Put.there (Put.there (Put.there (Put.there (Put.there (Put.there (Put.there (Put.there (Put.there Put.here))))))))))))))))))))) | exact (Put.there (Put.there (Put.there (Put.there (Put.there (Put.there (Put.there (Put.there (Put.there (Put.there (Put.there (Put.there (Put.there (Put.there (Put.there (Put.there (Put.there (Put.there (Put.there (Put.there (Put.there (Put.there Put.here)))))))))))))))))))))) | exact (Put.there (Put.there (Put.there (Put.there (Put.there (Put.there (Put.there (Put.there (Put.there (Put.there (Put.there (Put.there (Put.there (Put.there (Put.there (Put.there (Put.there (Put.there (Put.there (Put.there (Put.there (Put.there (Put.there Put.here))))))))))))))))))))))) | exact (Put.there (Put.there (Put.there (Put.there (Put.there (Put.there (Put.there (Put.there (Put.there (Put.there (Put.there (Put.there (Put.there (Put.there (Put.there (Put.there (Put.there (Put.there (Put.there (Put.there (Put.there (Put.there (Put.there (Put.there Put.here)))))))))))))))))))))))) | exact (Put.there (Put.there (Put.there (Put.there (Put.there (Put.there (Put.there (Put.there (Put.there (Put.there (Put.there (Put.there (Put.there (Put.there (Put.there (Put.there (Put.there (Put.there (Put.there (Put.there (Put.there (Put.there (Put.there (Put.there (Put.there Put.here))))))))))))))))))))))))))
local macro_rules | `(tactic| walk_at "dv mem") => `(tactic| (repeat (first | (with_reducible exact List.mem_cons_self) | with_reducible refine List.mem_cons_of_mem _ ?_)))
local macro_rules | `(tactic| walk_at "dv hp") => `(tactic| first | assumption | exact hset_same | (exact Upd.at_ (by assumption)))
local macro_rules | `(tactic| walk_at "dv ix") => `(tactic| first | (with_reducible exact rfl) | exact rfl | assumption)
local macro_rules | `(tactic| walk_at "dv bd") => `(tactic| first
  | assumption
  | exact Bd.ite
  | exact Bd.small (by omega)
  | ((with_reducible refine' Bd.absI ?k1); (case k1 => walk_at "dv bd"))
  | ((with_reducible refine' Bd.neg ?k1); (case k1 => walk_at "dv bd"))
  | ((with_reducible refine' Bd.mul ?k1 ?k2); (case k1 => walk_at "dv bd"); (case k2 => walk_at "dv bd"))
  | ((with_reducible refine' Bd.add' ?k1 ?k2); (case k1 => walk_at "dv bd"); (case k2 => walk_at "dv bd"))
  | ((with_reducible refine' Bd.sub' ?k1 ?k2); (case k1 => walk_at "dv bd"); (case k2 => walk_at "dv bd")))
local macro_rules | `(tactic| walk_at "dv mul") => `(tactic| (refine' Bd.mulX ?k1 ?k2 ?k3; (case k1 => walk_at "dv bd"); (case k2 => walk_at "dv bd"); (case k3 => decide)))
local macro_rules | `(tactic| walk_at "dv e") => `(tactic| first
  | ((with_reducible refine' wE_name (by assumption) ?k1 ?_); (case k1 => walk_at "dv at"))
  | (with_reducible refine wE_int ?_)
  | (with_reducible refine wE_bin ?_)
  | (with_reducible refine b_add ?_)
  | (with_reducible refine b_sub ?_)
  | (with_reducible refine wE_not ?_)
  | (with_reducible refine wE_un ?_)
  | (with_reducible refine u_neg ?_)
  | ((with_reducible refine' wE_ix ?_ ?k1); (case k1 => exact fun _ _ => rfl))
  | ((with_reducible refine' i_tup ?k1 ?_); (case k1 => walk_at "dv ix"))
  | ((with_reducible refine' i_fz ?k1 ?_); (case k1 => walk_at "dv ix"))
  | ((with_reducible refine' i_ref ?k1 ?k2 ?_); (case k1 => walk_at "dv hp"); (case k2 => walk_at "dv ix"))
  | ((with_reducible refine' wE_cmp ?_ ?k1); (case k1 => first | exact nomark _ | rfl))
  | ((with_reducible refine' wT_cmp ?_ ?k1); (case k1 => first | exact nomark _ | rfl))
  | ((with_reducible refine' wA_cons ?_ ?k1); (case k1 => rfl))
  | (with_reducible refine t_bl ?_)
  | (with_reducible refine t_int ?_)
  | (with_reducible refine t_non ?_)
  | (with_reducible refine t_fz ?_)
  | (with_reducible refine t_tup ?_)
  | (with_reducible refine l_tup0 ?_)
  | (with_reducible refine l_tup1 ?_)
  | (with_reducible refine l_tup2 ?_)
  | (with_reducible refine l_tup3 ?_)
  | (with_reducible refine l_tup4 ?_)
  | (with_reducible refine l_tup ?_)
  | (with_reducible refine l_fz ?_)
  | ((with_reducible refine' l_ref ?k1 ?_); (case k1 => walk_at "dv hp"))
  | ((with_reducible refine' t_ref ?k1 ?_); (case k1 => walk_at "dv hp"))
  | (with_reducible refine c_eq ?_)
  | (with_reducible refine c_ne ?_)
  | (with_reducible refine c_lt ?_)
  | (with_reducible refine c_le ?_)
  | (with_reducible refine c_gt ?_)
  | (with_reducible refine c_ge ?_)
  | (with_reducible refine c_eqS ?_)
  | (with_reducible refine c_neS ?_)
  | (with_reducible refine wE_tup ?_)
  | (with_reducible refine wA_nil ?_)
  | (with_reducible refine wK_nil ?_)
  | (with_reducible refine wK_cons ?_)
  | (with_reducible refine wE_bl ?_)
  | (with_reducible refine wE_non ?_)
  | (with_reducible refine wE_str ?_)
  | (with_reducible refine wT_not ?_)
  | (with_reducible refine wW.wt (wW_and ?_))
  | (with_reducible refine wW.wt (wW_or ?_))
  | (with_reducible refine wW_and ?_)
  | (with_reducible refine wW_or ?_)
  | (with_reducible refine wW_and1 ?_)
  | (with_reducible refine wW_or1 ?_)
  | (with_reducible refine wE_and ?_)
  | (with_reducible refine wE_or ?_)
  | (with_reducible refine wE_one ?_)
  | (with_reducible refine wE_if ?_)
  | (with_reducible refine wE_lst ?_)
  | ((with_reducible refine' wT_tru ?_ ?k1); (case k1 => (intro _; rfl)))
  | (with_reducible refine b_pow6 ?_)
  | (with_reducible refine b_pow18 ?_)
  | (with_reducible refine b_pow30 ?_)
  | (with_reducible refine b_pow60 ?_)
  | (with_reducible refine b_pow840 ?_)
  | ((with_reducible refine' b_mul ?k1 ?_); (case k1 => walk_at "dv mul"))
  | ((with_reducible refine' wE_len (by assumption) ?k1 ?_ ?k2); (case k1 => walk_at "dv mem"); (case k2 => rfl))
  | ((with_reducible refine' wE_abs (by assumption) ?k1 ?_ ?k2); (case k1 => walk_at "dv mem"); (case k2 => rfl))
  | ((with_reducible refine' wE_toint (by assumption) ?k1 ?_ ?k2); (case k1 => walk_at "dv mem"); (case k2 => rfl))
  | ((with_reducible refine' wE_sum (by assumption) ?k1 (by assumption) ?_ ?k2); (case k1 => walk_at "dv mem"); (case k2 => rfl))
  | ((with_reducible refine' wE_isEr rfl (by assumption) (by assumption) (by assumption) (by assumption) ?k1 ?k2 ?k3 (by assumption) (by assumption) ?_); (case k1 => walk_at "dv mem"); (case k2 => walk_at "dv at"); (case k3 => walk_at "dv mem"))
  | ((with_reducible refine' wE_isEt rfl (by assumption) (by assumption) (by assumption) (by assumption) ?k1 ?k2 ?k3 ?k4 ?k5 (by assumption) ?_); (case k1 => walk_at "dv mem"); (case k2 => walk_at "dv at"); (case k3 => walk_at "dv mem"); (case k4 => (unfold BL; walk_at "dv mem")); (case k5 => exact bt_ValueError))
  | ((with_reducible refine' wE_isi (by assumption) ?k1 ?_ ?k2 ?k3 ?k4); (case k1 => walk_at "dv mem"); (case k2 => rfl); (case k3 => rfl); (case k4 => rfl))
  | ((with_reducible refine' wE_type (by assumption) ?k1 ?k2 ?k3 ?_); (case k1 => walk_at "dv mem"); (case k2 => (unfold BL; walk_at "dv mem")); (case k3 => first | exact bt_int | exact bt_bool | exact bt_tuple | exact bt_str | exact bt_list))
  | ((with_reducible refine' wE_call (by assumption) (by assumption) ?k1 ?k2 (by assumption) ?_ ?k3 ?k4); (case k1 => walk_at "dv mem"); (case k2 => exact Room.mono (by assumption) (by decide)); (case k3 => rfl); (case k4 => rfl))
  | ((with_reducible refine' wE_call0 (by assumption) (by assumption) ?k1 ?k2 (by assumption) ?_); (case k1 => walk_at "dv mem"); (case k2 => exact Room.mono (by assumption) (by decide)))
  | ((with_reducible refine' wE_callK0 (by assumption) (by assumption) ?k1 ?k2 (by assumption) ?_ ?k3 ?k4 ?k5); (case k1 => walk_at "dv mem"); (case k2 => exact Room.mono (by assumption) (by decide)); (case k3 => rfl); (case k4 => rfl); (case k5 => rfl))
  | ((with_reducible refine' wE_callK (by assumption) (by assumption) ?k1 ?k2 (by assumption) ?_ ?k3 ?k4 ?k5 ?k6); (case k1 => walk_at "dv mem"); (case k2 => exact Room.mono (by assumption) (by decide)); (case k3 => rfl); (case k4 => rfl); (case k5 => rfl); (case k6 => rfl))
  | ((with_reducible refine' wS_set (by assumption) ?k1 ?k2 ?_ ?k3); (case k1 => walk_at "dv mem"); (case k2 => walk_at "dv put"); (case k3 => rfl))
  | ((with_reducible refine' wS_expr ?_ ?k1); (case k1 => rfl))
  | ((with_reducible refine' wS_asg ?_ ?k1 ?k2 ?k3); (case k1 => rfl); (case k2 => rfl); (case k3 => rfl))
  | ((with_reducible refine' wG_ix ?_ ?k1); (case k1 => (intro _; rfl)))
  | ((with_reducible refine' gix ?k1 ?k2 ?_); (case k1 => walk_at "dv hp"); (case k2 => rfl))
  | (with_reducible refine wS_if ?_)
  | (with_reducible refine wS_ret ?_)
  | (with_reducible refine wB_cons ?_)
  | (with_reducible refine wB_nil ?_)
  | ((with_reducible refine' wG_name (by assumption) ?k1 ?k2 ?_); (case k1 => walk_at "dv mem"); (case k2 => walk_at "dv put1"))
  | ((with_reducible refine' tupz ?k1 ?_); (case k1 => rfl))
  | (with_reducible refine is_non_int ?_)
  | (with_reducible refine is_non_bool ?_)
  | (with_reducible refine is_non_str ?_)
  | (with_reducible refine is_non_tuple ?_)
  | (with_reducible refine is_non_list ?_)
  | (with_reducible refine is_bl_int ?_)
  | (with_reducible refine is_bl_bool ?_)
  | (with_reducible refine is_bl_str ?_)
  | (with_reducible refine is_bl_tuple ?_)
  | (with_reducible refine is_bl_list ?_)
  | (with_reducible refine is_int_int ?_)
  | (with_reducible refine is_int_bool ?_)
  | (with_reducible refine is_int_str ?_)
  | (with_reducible refine is_int_tuple ?_)
  | (with_reducible refine is_int_list ?_)
  | (with_reducible refine is_str_int ?_)
  | (with_reducible refine is_str_bool ?_)
  | (with_reducible refine is_str_str ?_)
  | (with_reducible refine is_str_tuple ?_)
  | (with_reducible refine is_str_list ?_)
  | (with_reducible refine is_tup_int ?_)
  | (with_reducible refine is_tup_bool ?_)
  | (with_reducible refine is_tup_str ?_)
  | (with_reducible refine is_tup_tuple ?_)
  | (with_reducible refine is_tup_list ?_)
  | (with_reducible refine is_fz_int ?_)
  | (with_reducible refine is_fz_bool ?_)
  | (with_reducible refine is_fz_str ?_)
  | (with_reducible refine is_fz_tuple ?_)
  | (with_reducible refine is_fz_list ?_)
  | (with_reducible refine ways_t ?_)
  | (with_reducible refine ways_f ?_)
  | (with_reducible refine ways_nt ?_)
  | (with_reducible refine ways_nf ?_)
  | ((with_reducible refine' ways_y ?k1 ?_); (case k1 => first | assumption | decide))
  | ((with_reducible refine' ways_n ?k1 ?_); (case k1 => first | assumption | decide))
  | ((with_reducible refine' waysN_y ?k1 ?_); (case k1 => first | assumption | decide))
  | ((with_reducible refine' waysN_n ?k1 ?_); (case k1 => first | assumption | decide))
  | (with_reducible refine ⟨_, rfl, ?_⟩)
  | (with_reducible refine Or.inl ⟨_, rfl, ?_⟩)
  | (with_reducible refine Or.inr ⟨_, rfl, ?_⟩))
local macro_rules | `(tactic| walk_at "dv go") => `(tactic| repeat (walk_at "dv e"))
local macro_rules | `(tactic| walk_at "dv all") => `(tactic| repeat' (first | (with_reducible refine ways (fun _ => ?_) (fun _ => ?_)) | (with_reducible refine waysN (fun _ => ?_) (fun _ => ?_)) | walk_at "dv e"))
local macro_rules | `(tactic| walk_at "dv bind") => `(tactic| (intro _ _ _ _ _ _ us hl; first | exact (match us, hl with | [], _ => rfl) | exact (match us, hl with | [_], _ => rfl) | exact (match us, hl with | [_, _], _ => rfl) | exact (match us, hl with | [_, _, _], _ => rfl) | exact (match us, hl with | [_, _, _, _], _ => rfl) | exact (match us, hl with | [_, _, _, _, _], _ => rfl) | exact (match us, hl with | [_, _, _, _, _, _], _ => rfl) | exact (match us, hl with | [_, _, _, _, _, _, _], _ => rfl) | exact (match us, hl with | [_, _, _, _, _, _, _, _], _ => rfl)))
/-! fractions: what the package computes -/
def fr (p : Int × Int) : D := .tup [.int p.1, .int p.2]
/-- n over d in lowest form, d not zero -/
def lowC (n d : Int) : Int := if d < 0 then -((Nat.gcd n.natAbs d.natAbs : Nat) : Int) else ((Nat.gcd n.natAbs d.natAbs : Nat) : Int)
def low (n d : Int) : Int × Int := (n.fdiv (lowC n d), d.fdiv (lowC n d))
def frac (n d : Int) : Int × Int := if d = 1 then (n, 1) else low n d
def fsum (p q : Int × Int) : Int × Int := if p.2 = q.2 then frac (p.1 + q.1) p.2 else frac (p.1 * q.2 + q.1 * p.2) (p.2 * q.2)
def fprod (p q : Int × Int) : Int × Int := frac (p.1 * q.1) (p.2 * q.2)
def fquot (p q : Int × Int) : Int × Int := frac (p.1 * q.2) (p.2 * q.1)
def fcmp (p q : Int × Int) : Int := if p.1 * q.2 < q.1 * p.2 then -1 else if q.1 * p.2 < p.1 * q.2 then 1 else 0
/-- a pair of bounded numbers, the second not zero -/
def FB (p : Int × Int) : Prop := Bd 1000 p.1 ∧ Bd 1000 p.2 ∧ p.2 ≠ 0
structure T0 (Z : Addr) (mg : Str → Option Value) (K : PySem.W.Frag) : Prop where
  gcd : mg "gcd" = some (.builtin "math.gcd")
  zd : ErrC K mg "ZeroDivisor" Z
def spFraction (Z : Addr) : SpD := fun ds h Q E => ∃ n d : Int, ds = [.int n, .int d] ∧ Bd 4000 d ∧ (d = 0 → E Z [] h) ∧ (d ≠ 0 → Q (fr (frac n d)) h)
def spSum : SpD := fun ds h Q E => ∃ p q, ds = [fr p, fr q] ∧ FB p ∧ FB q ∧ Q (fr (fsum p q)) h
def spDiff : SpD := fun ds h Q E => ∃ p q, ds = [fr p, fr q] ∧ FB p ∧ FB q ∧ Q (fr (fsum p (-q.1, q.2))) h
def spProd : SpD := fun ds h Q E => ∃ p q, ds = [fr p, fr q] ∧ FB p ∧ FB q ∧ Q (fr (fprod p q)) h
def spQuot (Z : Addr) : SpD := fun ds h Q E => ∃ p q, ds = [fr p, fr q] ∧ FB p ∧ FB q ∧ (q.1 = 0 → E Z [] h) ∧ (q.1 ≠ 0 → Q (fr (fquot p q)) h)
def spCmp : SpD := fun ds h Q E => ∃ p q, ds = [fr p, fr q] ∧ FB p ∧ FB q ∧ Q (.int (fcmp p q)) h
theorem gcd_ne {n d : Int} (h : d ≠ 0) : (Nat.gcd n.natAbs d.natAbs : Int) ≠ 0 := by
  intro e
  have e2 : Nat.gcd n.natAbs d.natAbs = 0 := by exact_mod_cast e
  have := (Nat.gcd_eq_zero_iff.mp e2).2
  omega
theorem gcd_bd {k : Nat} {n d : Int} (h : d ≠ 0) (b : Bd k d) : Bd k (Nat.gcd n.natAbs d.natAbs : Nat) := by
  refine b.le ?_
  rw [Int.natAbs_natCast]
  exact Nat.le_of_dvd (by omega) (Nat.gcd_dvd_right _ _)
section
variable {P : Program} {w : World} {K : PySem.W.Frag} {mg : Str → Option Value} {base : Heap} {Z : Addr}
theorem ok_fraction {f : Addr} {fd : FuncData} {dvs : List V} (F : FunD K "fraction" "fraction" (defArgs s_fraction) (defBody s_fraction) (defScope s_fraction) dvs [] f fd) (bl : ∀ x ∈ BL, mg x = none) (T : T0 Z mg K) :
    FnOk P w K mg base (L2.CX P w) 1 f fd ["n", "d"] (spOf K (spFraction Z)) := by
  refine def_ok (T := fun P w K mg base => T0 Z mg K) F sc_fraction sb_fraction T bl (fun ds h Q E ⟨n, d, e, _⟩ => by rw [e]; rfl) fun X ds h Q E T ⟨C, hc, hr, tk⟩ z => ?_
  obtain ⟨n, d, rfl, hd, z0, z1⟩ := z
  dsimp only [startD, N_fraction]
  refine wB_cons ?_
  walk_at "dv go"
  refine ways (fun h0 => ?_) (fun h0 => ?_)
  · refine wB_cons (wS_raise0 T.zd C (by walk_at "dv mem") hc tk ⟨h, Ext.refl h, z0 h0⟩)
  walk_at "dv go"
  refine ways (fun h1 => ?_) (fun h1 => ?_)
  · walk_at "dv go"
    refine ⟨h, Ext.refl h, ?_⟩
    have e := z1 h0
    rw [frac, if_pos h1] at e
    exact e
  have e := z1 h0
  rw [frac, if_neg h1] at e
  walk_at "dv go"
  refine wE_gcd T.gcd C (by walk_at "dv mem") ?_
  walk_at "dv go"
  refine ⟨_, _, rfl, rfl, ?_⟩
  walk_at "dv go"
  have g0 := gcd_ne (n := n) h0
  have gb := gcd_bd (n := n) h0 hd
  refine ways (fun h2 => ?_) (fun h2 => ?_)
  · walk_at "dv go"
    refine b_div (Bd.div (by omega) gb.neg (by decide) (by decide)) ?_
    walk_at "dv go"
    refine b_div (Bd.div (by omega) gb.neg (by decide) (by decide)) ?_
    walk_at "dv go"
    refine ⟨h, Ext.refl h, ?_⟩
    rw [low, lowC, if_pos h2] at e
    exact e
  · walk_at "dv go"
    refine b_div (Bd.div g0 gb (by decide) (by decide)) ?_
    walk_at "dv go"
    refine b_div (Bd.div g0 gb (by decide) (by decide)) ?_
    walk_at "dv go"
    refine ⟨h, Ext.refl h, ?_⟩
    rw [low, lowC, if_neg h2] at e
    exact e
theorem ok_frac_sum {f : Addr} {fd : FuncData} (F : FunD K "frac_sum" "frac_sum" (defArgs s_frac_sum) (defBody s_frac_sum) (defScope s_frac_sum) [] [] f fd) (bl : ∀ x ∈ BL, mg x = none) (T : FnG P w K mg base "fraction" [] 1 (spFraction Z)) :
    FnOk P w K mg base (L2.CX P w) 2 f fd ["x", "y"] (spOf K spSum) := by
  refine def_ok (T := fun P w K mg base => FnG P w K mg base "fraction" [] 1 (spFraction Z)) F sc_frac_sum sb_frac_sum T bl (fun ds h Q E ⟨n, d, e, _⟩ => by rw [e]; rfl) fun X ds h Q E F1 ⟨C, hc, hr, tk⟩ z => ?_
  obtain ⟨⟨a, b⟩, ⟨c, d⟩, rfl, ⟨ha, hb, hb0⟩, ⟨hc', hd, hd0⟩, z⟩ := z
  dsimp only [startD, N_frac_sum, fr] at *
  unfold fsum at z
  dsimp only at z
  refine wB_cons ?_
  walk_at "dv go"
  refine ways (fun h1 => ?_) (fun h1 => ?_)
  · rw [if_pos h1] at z
    walk_at "dv go"
    refine ⟨_, _, rfl, by exact hb.mono (by decide), fun e => (hb0 e).elim, fun _ => ⟨h, Ext.refl h, z⟩⟩
  · rw [if_neg h1] at z
    walk_at "dv go"
    refine ⟨_, _, rfl, by exact (hb.mul hd).mono (by decide), fun e => ?_, fun _ => ⟨h, Ext.refl h, z⟩⟩
    rcases Int.mul_eq_zero.mp e with e | e
    · exact (hb0 e).elim
    · exact (hd0 e).elim
theorem ok_frac_difference {f : Addr} {fd : FuncData} (F : FunD K "frac_difference" "frac_difference" (defArgs s_frac_difference) (defBody s_frac_difference) (defScope s_frac_difference) [] [] f fd) (bl : ∀ x ∈ BL, mg x = none) (T : FnG P w K mg base "frac_sum" [] 2 spSum) :
    FnOk P w K mg base (L2.CX P w) 3 f fd ["x", "y"] (spOf K spDiff) := by
  refine def_ok (T := fun P w K mg base => FnG P w K mg base "frac_sum" [] 2 spSum) F sc_frac_difference sb_frac_difference T bl (fun ds h Q E ⟨n, d, e, _⟩ => by rw [e]; rfl) fun X ds h Q E F1 ⟨C, hc, hr, tk⟩ z => ?_
  obtain ⟨⟨a, b⟩, ⟨c, d⟩, rfl, hp, ⟨hc', hd, hd0⟩, z⟩ := z
  dsimp only [startD, N_frac_difference, fr] at *
  refine wB_cons ?_
  walk_at "dv go"
  exact ⟨(a, b), (-c, d), rfl, hp, ⟨hc'.neg, hd, hd0⟩, h, Ext.refl h, z⟩
theorem ok_frac_product {f : Addr} {fd : FuncData} (F : FunD K "frac_product" "frac_product" (defArgs s_frac_product) (defBody s_frac_product) (defScope s_frac_product) [] [] f fd) (bl : ∀ x ∈ BL, mg x = none) (T : FnG P w K mg base "fraction" [] 1 (spFraction Z)) :
    FnOk P w K mg base (L2.CX P w) 2 f fd ["x", "y"] (spOf K spProd) := by
  refine def_ok (T := fun P w K mg base => FnG P w K mg base "fraction" [] 1 (spFraction Z)) F sc_frac_product sb_frac_product T bl (fun ds h Q E ⟨n, d, e, _⟩ => by rw [e]; rfl) fun X ds h Q E F1 ⟨C, hc, hr, tk⟩ z => ?_
  obtain ⟨⟨a, b⟩, ⟨c, d⟩, rfl, ⟨ha, hb, hb0⟩, ⟨hc', hd, hd0⟩, z⟩ := z
  dsimp only [startD, N_frac_product, fr] at *
  refine wB_cons ?_
  walk_at "dv go"
  refine ⟨_, _, rfl, (hb.mul hd).mono (by decide), fun e => ?_, fun _ => ⟨h, Ext.refl h, z⟩⟩
  rcases Int.mul_eq_zero.mp e with e | e
  · exact (hb0 e).elim
  · exact (hd0 e).elim
theorem ok_frac_quotient {f : Addr} {fd : FuncData} (F : FunD K "frac_quotient" "frac_quotient" (defArgs s_frac_quotient) (defBody s_frac_quotient) (defScope s_frac_quotient) [] [] f fd) (bl : ∀ x ∈ BL, mg x = none) (T : T0 Z mg K ∧ FnG P w K mg base "fraction" [] 1 (spFraction Z)) :
    FnOk P w K mg base (L2.CX P w) 2 f fd ["x", "y"] (spOf K (spQuot Z)) := by
  refine def_ok (T := fun P w K mg base => T0 Z mg K ∧ FnG P w K mg base "fraction" [] 1 (spFraction Z)) F sc_frac_quotient sb_frac_quotient T bl (fun ds h Q E ⟨n, d, e, _⟩ => by rw [e]; rfl) fun X ds h Q E ⟨T, F1⟩ ⟨C, hc, hr, tk⟩ z => ?_
  obtain ⟨⟨a, b⟩, ⟨c, d⟩, rfl, ⟨ha, hb, hb0⟩, ⟨hc', hd, hd0⟩, z0, z⟩ := z
  dsimp only [startD, N_frac_quotient, fr] at *
  refine wB_cons ?_
  walk_at "dv go"
  refine ways (fun h1 => ?_) (fun h1 => ?_)
  · refine wB_cons (wS_raise0 T.zd C (by walk_at "dv mem") hc tk ⟨h, Ext.refl h, z0 h1⟩)
  walk_at "dv go"
  refine ⟨_, _, rfl, (hb.mul hc').mono (by decide), fun e => ?_, fun _ => ⟨h, Ext.refl h, z h1⟩⟩
  rcases Int.mul_eq_zero.mp e with e | e
  · exact (hb0 e).elim
  · exact (h1 e).elim
theorem ok_compare {f : Addr} {fd : FuncData} (F : FunD K "compare" "compare" (defArgs s_compare) (defBody s_compare) (defScope s_compare) [] [] f fd) (bl : ∀ x ∈ BL, mg x = none) :
    FnOk P w K mg base (L2.CX P w) 1 f fd ["x", "y"] (spOf K spCmp) := by
  refine def_ok (T := fun P w K mg base => True) F sc_compare sb_compare trivial bl (fun ds h Q E ⟨n, d, e, _⟩ => by rw [e]; rfl) fun X ds h Q E _ ⟨C, hc, hr, tk⟩ z => ?_
  obtain ⟨⟨a, b⟩, ⟨c, d⟩, rfl, ⟨ha, hb, hb0⟩, ⟨hc', hd, hd0⟩, z⟩ := z
  dsimp only [startD, N_compare, fr] at *
  unfold fcmp at z
  dsimp only at z
  refine wB_cons ?_
  walk_at "dv go"
  refine ways (fun h1 => ?_) (fun h1 => ?_)
  · rw [if_pos h1] at z
    walk_at "dv go"
    exact ⟨h, Ext.refl h, z⟩
  rw [if_neg h1] at z
  walk_at "dv go"
  refine ways (fun h2 => ?_) (fun h2 => ?_)
  · rw [if_pos h2] at z
    walk_at "dv go"
    exact ⟨h, Ext.refl h, z⟩
  rw [if_neg h2] at z
  walk_at "dv go"
  exact ⟨h, Ext.refl h, z⟩
end
/-! the law's own helpers -/
/-- a box of draws: what it holds, n a bound of the draws so far -/
structure Box (n : Int) (b0 b1 b2 : Int) : Prop where
  z0 : 0 ≤ b0
  s0 : Bd 2800 b0
  z1 : 0 ≤ b1
  s1 : b1 < 1180591620717411303424
  z2 : 0 ≤ b2
  s2 : b2 ≤ n
theorem Box.mono {m n b0 b1 b2 : Int} (b : Box m b0 b1 b2) (h : m ≤ n) : Box n b0 b1 b2 := ⟨b.z0, b.s0, b.z1, b.s1, b.z2, by have := b.s2; omega⟩
def bx (b0 b1 b2 : Int) : List D := [.int b0, .int b1, .int b2]
def spBox : SpD := fun ds h Q E => ∃ (ns : List Int) (k : Int), ds = [.fz (ns.map D.int), .int k] ∧ (0 ≤ k ∧ k ≤ 1000) ∧ ∀ (p : Addr) (b0 b1 : Int), h p = none → Box 0 b0 b1 0 → Q (.ref p) (hset h p (.lst (bx b0 b1 0)))
def spTake : SpD := fun ds h Q E => ∃ (a : Addr) (many b0 b1 b2 n : Int), ds = [.ref a, .int many] ∧ h a = some (.lst (bx b0 b1 b2)) ∧ Box n b0 b1 b2 ∧ (0 < many ∧ many ≤ 1000000) ∧ n ≤ 1000000 ∧
  ∀ (told c0 c2 : Int) (h' : HD), 0 ≤ told → told < many → Box (n + 1) c0 b1 c2 → Upd h h' a (bx c0 b1 c2) → Q (.int told) h'
def spLong : SpD := fun ds h Q E => ∃ (a : Addr) (pieces : Nat) (b0 b1 b2 n : Int), ds = [.ref a, .int pieces] ∧ h a = some (.lst (bx b0 b1 b2)) ∧ Box n b0 b1 b2 ∧ pieces ≤ 20 ∧ n ≤ 900000 ∧
  ∀ (told c0 c2 : Int) (h' : HD), 0 ≤ told → told < 2 ^ (20 * pieces) → Box (n + pieces) c0 b1 c2 → Upd h h' a (bx c0 b1 c2) → Q (.int told) h'
def spNumber : SpD := fun ds h Q E => ∃ (a : Addr) (pieces : Nat) (bound b0 b1 b2 n : Int), ds = [.ref a, .int pieces, .int bound] ∧ h a = some (.lst (bx b0 b1 b2)) ∧ Box n b0 b1 b2 ∧ pieces ≤ 10 ∧ Bd 200 bound ∧ n ≤ 800000 ∧
  ∀ (told c0 c2 : Int) (h' : HD), Bd 210 told → Box (n + 40) c0 b1 c2 → Upd h h' a (bx c0 b1 c2) → Q (.int told) h'
def spGcd : SpD := fun ds h Q E => ∃ a b : Int, ds = [.int a, .int b] ∧ Q (.int ((Nat.gcd a.natAbs b.natAbs : Nat) : Int)) h
def spLowest : SpD := fun ds h Q E => ∃ a b : Int, ds = [.int a, .int b] ∧ b ≠ 0 ∧ Bd 4000 b ∧ Q (fr (low a b)) h
def spIsInt : SpD := fun ds h Q E => ∃ a : Int, ds = [.int a] ∧ Q (.bl true) h
/-- p is n over d in lowest form -/
structure Is (p : Int × Int) (n d : Int) : Prop where
  pos : 1 ≤ p.2
  cop : Nat.gcd p.1.natAbs p.2.natAbs = 1
  eq : p.1 * d = n * p.2
def spIs : SpD := fun ds h Q E => ∃ (p : Int × Int) (n d : Int), ds = [fr p, .int n, .int d] ∧ Bd 4000 p.1 ∧ Bd 4000 p.2 ∧ Bd 4000 n ∧ Bd 4000 d ∧ Is p n d ∧ Q (.bl true) h
theorem pow2_le {m n : Nat} (h : m ≤ n) : (2 : Int) ^ m ≤ 2 ^ n := by
  have q := Nat.pow_le_pow_right (show 0 < 2 by decide) h
  have e1 : ((2 ^ m : Nat) : Int) = (2 : Int) ^ m := by rw [Int.natCast_pow]; rfl
  have e2 : ((2 ^ n : Nat) : Int) = (2 : Int) ^ n := by rw [Int.natCast_pow]; rfl
  omega
theorem bd_of {n : Nat} {x : Int} (h0 : 0 ≤ x) (h1 : x < 2 ^ n) : Bd n x := by
  have e1 : ((2 ^ n : Nat) : Int) = (2 : Int) ^ n := by rw [Int.natCast_pow]; rfl
  unfold Bd
  omega
/-- between the ifs of a drawn number: the way, a bounded number, the box -/
def NumS (h : HD) (a : Addr) (pieces : Nat) (bound b1 n m : Int) : SD → HD → Prop := fun τ' h' => ∃ (way told c0 c2 : Int), τ' = [some (.ref a), some (.int pieces), some (.int bound), some (.int way), some (.int told)] ∧ Bd 201 told ∧ h' a = some (.lst (bx c0 b1 c2)) ∧ Box (n + m) c0 b1 c2 ∧ ∀ b, b ≠ a → h' b = h b
theorem cut_take (ds : List D) (n : Nat) : Dv.cutD ds none (some (n : Int)) = ds.take n := by
  unfold Dv.cutD
  rw [HT.sIx_none, HT.sIx_nat, List.drop_zero, Nat.sub_zero]
  by_cases h : n ≤ ds.length
  · rw [Nat.min_eq_left h]
  · rw [Nat.min_eq_right (by omega), List.take_length, List.take_of_length_le (by omega)]
section
variable {P : Program} {w : World} {K : PySem.W.Frag} {mg : Str → Option Value} {base : Heap} {Z : Addr}
theorem ok_law_box {f : Addr} {fd : FuncData} (F : FunD K "_law_box" "_law_box" (defArgs s_law_box) (defBody s_law_box) (defScope s_law_box) [] [] f fd) (bl : ∀ x ∈ BL, mg x = none) :
    FnOk P w K mg base (L2.CX P w) 1 f fd ["script", "k"] (spOf K spBox) := by
  refine def_ok (T := fun P w K mg base => True) F sc_law_box sb_law_box trivial bl (fun ds h Q E ⟨n, d, e, _⟩ => by rw [e]; rfl) fun X ds h Q E _ ⟨C, hc, hr, tk⟩ z => ?_
  obtain ⟨ns, k, rfl, ⟨hk0, hk1⟩, z⟩ := z
  dsimp only [startD, N_law_box]
  refine wB_mid (fun τ' h' => ∃ cell : Int, 0 ≤ cell ∧ τ' = [some (.fz (ns.map D.int)), some (.int k), some (.int cell)] ∧ Ext h h') ?_ ?_
  · walk_at "dv go"
    refine wE_cutL ?_
    walk_at "dv go"
    show wE X _ _ _ _
    walk_at "dv go"
    refine ⟨ns.map D.int, .inl rfl, fun p hp => ?_⟩
    refine ⟨ns.take 1, .inr ⟨p, rfl, ?_⟩, ?_⟩
    · rw [hset_same, show (1 : Int) = ((1 : Nat) : Int) from rfl, cut_take, List.map_take]
    walk_at "dv go"
    refine b_modP (by decide) fun r r0 r1 _ => ?_
    walk_at "dv go"
    exact ⟨k + r, by omega, rfl, Ext.new hp⟩
  · rintro τ1 h1 ⟨cell, hc0, rfl, x1⟩
    refine wB_mid (fun τ' h' => ∃ cell : Int, 0 ≤ cell ∧ τ' = [some (.fz (ns.map D.int)), some (.int k), some (.int cell)] ∧ Ext h h') ?_ ?_
    · walk_at "dv go"
      refine ways (fun hlt => ?_) (fun _ => ?_)
      · walk_at "dv go"
        rw [List.length_map] at hlt
        obtain ⟨j, rfl⟩ : ∃ j : Nat, k = (j : Int) := ⟨k.toNat, by omega⟩
        have hj : j < ns.length := by omega
        refine i_fz (d := .int ns[j]) (atI_nat (by rw [List.getElem?_map, List.getElem?_eq_getElem hj]; rfl)) ?_
        walk_at "dv go"
        exact ⟨_, by split <;> omega, rfl, x1⟩
      · walk_at "dv go"
        exact ⟨cell, hc0, rfl, x1⟩
    · rintro τ1 h1 ⟨cell, hc0, rfl, x1⟩
      walk_at "dv go"
      refine ways (fun hlt => ?_) (fun _ => ?_)
      · walk_at "dv go"
        intro p hp
        have hp0 : h p = none := by
          cases e : h p with
          | none => rfl
          | some o => rw [x1 p o e] at hp; cases hp
        refine ⟨hset h p (.lst (bx 0 (cell * 64 + k) 0)), fun a o e => ?_, z p 0 (cell * 64 + k) hp0 ⟨by decide, (Bd.small (by omega)).mono (by decide), by omega, by omega, by decide, by decide⟩⟩
        by_cases ea : a = p
        · subst ea
          rw [hset_same] at e ⊢
          exact e
        · rw [hset_ne ea] at e ⊢
          exact x1 a o e
      · walk_at "dv go"
        refine b_modP c840_pos fun r r0 r1 _ => ?_
        walk_at "dv go"
        refine b_modP (by decide) fun r2 r20 r21 _ => ?_
        walk_at "dv go"
        intro p hp
        have hp0 : h p = none := by
          cases e : h p with
          | none => rfl
          | some o => rw [x1 p o e] at hp; cases hp
        refine ⟨hset h p (.lst (bx r (r2 * 64 + k) 0)), fun a o e => ?_, z p r (r2 * 64 + k) hp0 ⟨r0, ?_, by omega, by omega, by decide, by decide⟩⟩
        · by_cases ea : a = p
          · subst ea
            rw [hset_same] at e ⊢
            exact e
          · rw [hset_ne ea] at e ⊢
            exact x1 a o e
        · have q := c840_lt
          unfold Bd
          have : ((2 ^ 2800 : Nat) : Int) = (2 : Int) ^ 2800 := by rw [Int.natCast_pow]; rfl
          omega
theorem ok_law_take {f : Addr} {fd : FuncData} (F : FunD K "_law_take" "_law_take" (defArgs s_law_take) (defBody s_law_take) (defScope s_law_take) [] [] f fd) (bl : ∀ x ∈ BL, mg x = none) :
    FnOk P w K mg base (L2.CX P w) 1 f fd ["box", "many"] (spOf K spTake) := by
  refine def_ok (T := fun P w K mg base => True) F sc_law_take sb_law_take trivial bl (fun ds h Q E ⟨_, _, _, _, _, _, e, _⟩ => by rw [e]; rfl) fun X ds h Q E _ ⟨C, hc, hr, tk⟩ z => ?_
  obtain ⟨a, many, b0, b1, b2, n, rfl, ha, B, ⟨hm0, hm1⟩, hn, z⟩ := z
  have hm2 : many < 1073741824 := by omega
  dsimp only [startD, N_law_take]
  have q0 := B.z0
  have q1 := B.z1
  have q2 := B.z2
  have q3 := B.s1
  have q4 := B.s2
  have e0 : atI (bx b0 b1 b2) 0 = some (.int b0) := rfl
  have e1 : atI (bx b0 b1 b2) 1 = some (.int b1) := rfl
  have e2 : atI (bx b0 b1 b2) 2 = some (.int b2) := rfl
  refine wB_cons ?_
  walk_at "dv go"
  refine ways (fun h0 => ?_) (fun h0 => ?_)
  · walk_at "dv go"
    refine b_modP hm0 fun r r0 r1 er => ?_
    walk_at "dv go"
    refine b_divP hm0 hm2 ?_
    walk_at "dv go"
    refine ⟨_, Ext.refl _, z r (b0 / many) b2 _ r0 r1 ⟨Int.ediv_nonneg q0 (by omega), B.s0.le ?_, q1, q3, q2, by omega⟩ Upd.set⟩
    rw [Int.natAbs_ediv_of_nonneg q0]
    exact Nat.div_le_self _ _
  have f2 : Upd h (hset h a (.lst (bx b0 b1 (b2 + 1)))) a (bx b0 b1 (b2 + 1)) := Upd.set
  have e1 : atI (bx b0 b1 (b2 + 1)) 1 = some (.int b1) := rfl
  have e2' : atI (bx b0 b1 (b2 + 1)) 2 = some (.int (b2 + 1)) := rfl
  walk_at "dv go"
  refine b_modP (by decide) fun x1 x10 x11 _ => ?_
  walk_at "dv go"
  refine b_modP (by decide) fun x2 x20 x21 _ => ?_
  walk_at "dv go"
  refine b_modP (by decide) fun y y0 y1 _ => ?_
  walk_at "dv go"
  refine b_modP (by decide) fun x3 x30 x31 _ => ?_
  walk_at "dv go"
  refine b_modP (by decide) fun x4 x40 x41 _ => ?_
  walk_at "dv go"
  refine b_divP (by decide) (by decide) ?_
  walk_at "dv go"
  refine b_modP hm0 fun r r0 r1 _ => ?_
  exact ⟨_, Ext.refl _, z r b0 (b2 + 1) _ r0 r1 ⟨q0, B.s0, q1, q3, by omega, by omega⟩ f2⟩
theorem ok_law_long {f : Addr} {fd : FuncData} (F : FunD K "_law_long" "_law_long" (defArgs s_law_long) (defBody s_law_long) (defScope s_law_long) [] [] f fd) (bl : ∀ x ∈ BL, mg x = none) (T : FnG P w K mg base "_law_take" [] 1 spTake) :
    FnOk P w K mg base (L2.CX P w) 2 f fd ["box", "pieces"] (spOf K spLong) := by
  refine def_ok (T := fun P w K mg base => FnG P w K mg base "_law_take" [] 1 spTake) F sc_law_long sb_law_long T bl (fun ds h Q E ⟨_, _, _, _, _, _, e, _⟩ => by rw [e]; rfl) fun X ds h Q E F1 ⟨C, hc, hr, tk⟩ z => ?_
  obtain ⟨a, pieces, b0, b1, b2, n, rfl, ha, B, hp, hn, z⟩ := z
  dsimp only [startD, N_law_long]
  walk_at "dv go"
  refine wB_cons ?_
  walk_at "dv go"
  refine wS_forR C hc (by walk_at "dv mem") ?_
  walk_at "dv go"
  refine ⟨by omega, fun i τ' h' => ∃ (told c0 c2 : Int) (ks : Option D), τ' = [some (.ref a), some (.int pieces), some (.int told), ks] ∧ 0 ≤ told ∧ told < 2 ^ (20 * i) ∧ h' a = some (.lst (bx c0 b1 c2)) ∧ Box (n + i) c0 b1 c2 ∧ ∀ b, b ≠ a → h' b = h b, ⟨0, b0, b2, none, rfl, by omega, by decide, ha, B.mono (by omega), fun _ _ => rfl⟩, ?_, ?_⟩
  · rintro i τ1 h1 hi ⟨told, c0, c2, ks, rfl, t0, t1, ha1, B1, hne⟩
    rw [Int.toNat_natCast] at hi
    have bt : Bd 400 told := bd_of t0 (Int.lt_of_lt_of_le t1 (pow2_le (by omega)))
    walk_at "dv go"
    refine ⟨a, 1000000, c0, b1, c2, n + i, rfl, ha1, B1, by decide, by omega, fun x d0 d2 h2 x0 x1 B2 u2 => ?_⟩
    walk_at "dv go"
    refine ⟨told * 1000000 + x, d0, d2, _, rfl, by omega, ?_, u2.at_, B2.mono (by omega), fun b hb => (u2.ne b hb).trans (hne b hb)⟩
    have q : (2 : Int) ^ (20 * (i + 1)) = 2 ^ (20 * i) * 1048576 := by
      rw [Nat.mul_add, Nat.mul_one, Int.pow_add]
      rfl
    omega
  · rintro τ1 h1 ⟨told, c0, c2, ks, rfl, t0, t1, ha1, B1, hne⟩
    rw [Int.toNat_natCast] at t1
    rw [Int.toNat_natCast] at B1
    walk_at "dv go"
    exact ⟨_, Ext.refl _, z told c0 c2 _ t0 t1 B1 ⟨ha1, hne⟩⟩
theorem ok_law_number {f : Addr} {fd : FuncData} (F : FunD K "_law_number" "_law_number" (defArgs s_law_number) (defBody s_law_number) (defScope s_law_number) [] [] f fd) (bl : ∀ x ∈ BL, mg x = none) (T : FnG P w K mg base "_law_take" [] 1 spTake ∧ FnG P w K mg base "_law_long" [] 2 spLong) :
    FnOk P w K mg base (L2.CX P w) 3 f fd ["box", "pieces", "bound"] (spOf K spNumber) := by
  refine def_ok (T := fun P w K mg base => FnG P w K mg base "_law_take" [] 1 spTake ∧ FnG P w K mg base "_law_long" [] 2 spLong) F sc_law_number sb_law_number T bl (fun ds h Q E ⟨_, _, _, _, _, _, _, e, _⟩ => by rw [e]; rfl) fun X ds h Q E ⟨F1, F2⟩ ⟨C, hc, hr, tk⟩ z => ?_
  obtain ⟨a, pieces, bound, b0, b1, b2, n, rfl, ha, B, hp, hb, hn, z⟩ := z
  dsimp only [startD, N_law_number]
  have bd2 : ∀ {k : Nat} {x : Int}, k ≤ 10 → 0 ≤ x → x < 2 ^ (20 * k) → Bd 201 x := fun {k x} hk h0 h1 => bd_of h0 (Int.lt_of_lt_of_le h1 (pow2_le (by omega)))
  refine wB_cons ?_
  walk_at "dv go"
  refine ⟨a, 6, b0, b1, b2, n, rfl, ha, B, by decide, by omega, fun way c0 c2 h1 w0 w1 B1 u1 => ?_⟩
  refine wB_mid (NumS h a pieces bound b1 n 2) ?_ ?_
  · walk_at "dv go"
    refine ⟨a, 4, c0, b1, c2, n + 1, rfl, u1.at_, B1, by decide, by omega, fun x d0 d2 h2 x0 x1 B2 u2 => ?_⟩
    exact ⟨way, x, d0, d2, rfl, (Bd.small (by omega)).mono (by decide), u2.at_, B2.mono (by omega), (u1.trans u2).ne⟩
  rintro τ2 h2 ⟨way, told, c0, c2, rfl, bt, ha2, B2, ne2⟩
  refine wB_mid (NumS h a pieces bound b1 n 3) ?_ ?_
  · walk_at "dv go"
    refine ways (fun _ => ?_) (fun _ => ?_)
    · walk_at "dv go"
      refine ⟨a, 100, c0, b1, c2, n + 2, rfl, ha2, B2, by decide, by omega, fun x d0 d2 h2 x0 x1 B2 u2 => ?_⟩
      walk_at "dv go"
      exact ⟨way, x, d0, d2, rfl, (Bd.small (by omega)).mono (by decide), u2.at_, B2.mono (by omega), fun b hb => (u2.ne b hb).trans (ne2 b hb)⟩
    · walk_at "dv go"
      exact ⟨way, told, c0, c2, rfl, bt, ha2, B2.mono (by omega), ne2⟩
  rintro τ2 h2 ⟨way, told, c0, c2, rfl, bt, ha2, B2, ne2⟩
  refine wB_mid (NumS h a pieces bound b1 n 5) ?_ ?_
  · walk_at "dv go"
    refine ways (fun _ => ?_) (fun _ => ?_)
    · walk_at "dv go"
      refine ⟨a, 2, c0, b1, c2, n + 3, rfl, ha2, B2, by decide, by omega, fun x d0 d2 h2 x0 x1 B2 u2 => ?_⟩
      walk_at "dv go"
      exact ⟨way, x, d0, d2, rfl, bd2 (by decide) x0 x1, u2.at_, B2.mono (by omega), fun b hb => (u2.ne b hb).trans (ne2 b hb)⟩
    · walk_at "dv go"
      exact ⟨way, told, c0, c2, rfl, bt, ha2, B2.mono (by omega), ne2⟩
  rintro τ2 h2 ⟨way, told, c0, c2, rfl, bt, ha2, B2, ne2⟩
  refine wB_mid (NumS h a pieces bound b1 n 15) ?_ ?_
  · walk_at "dv go"
    refine ways (fun _ => ?_) (fun _ => ?_)
    · walk_at "dv go"
      refine b_divP (by decide) (by decide) ?_
      walk_at "dv go"
      refine ⟨a, pieces / 2, c0, b1, c2, n + 5, by rw [Int.natCast_ediv]; rfl, ha2, B2, by omega, by omega, fun x d0 d2 h2 x0 x1 B2 u2 => ?_⟩
      walk_at "dv go"
      exact ⟨way, x, d0, d2, rfl, bd2 (by omega) x0 x1, u2.at_, B2.mono (by omega), fun b hb => (u2.ne b hb).trans (ne2 b hb)⟩
    · walk_at "dv go"
      exact ⟨way, told, c0, c2, rfl, bt, ha2, B2.mono (by omega), ne2⟩
  rintro τ2 h2 ⟨way, told, c0, c2, rfl, bt, ha2, B2, ne2⟩
  refine wB_mid (NumS h a pieces bound b1 n 25) ?_ ?_
  · walk_at "dv go"
    refine ways (fun _ => ?_) (fun _ => ?_)
    · walk_at "dv go"
      refine ⟨a, pieces, c0, b1, c2, n + 15, rfl, ha2, B2, by omega, by omega, fun x d0 d2 h2 x0 x1 B2 u2 => ?_⟩
      walk_at "dv go"
      exact ⟨way, x, d0, d2, rfl, bd2 hp x0 x1, u2.at_, B2.mono (by omega), fun b hb => (u2.ne b hb).trans (ne2 b hb)⟩
    · walk_at "dv go"
      exact ⟨way, told, c0, c2, rfl, bt, ha2, B2.mono (by omega), ne2⟩
  rintro τ2 h2 ⟨way, told, c0, c2, rfl, bt, ha2, B2, ne2⟩
  refine wB_mid (fun τ' h' => ∃ (way told c0 c2 : Int), τ' = [some (.ref a), some (.int pieces), some (.int bound), some (.int way), some (.int told)] ∧ Bd 203 told ∧ h' a = some (.lst (bx c0 b1 c2)) ∧ Box (n + 26) c0 b1 c2 ∧ ∀ b, b ≠ a → h' b = h b) ?_ ?_
  · walk_at "dv go"
    refine ways (fun _ => ?_) (fun _ => ?_)
    · walk_at "dv go"
      exact ⟨way, _, c0, c2, rfl, ((hb.sub' (n := 80) (Bd.small (by decide))).sub' bt).mono (by decide), ha2, B2.mono (by omega), ne2⟩
    · walk_at "dv go"
      exact ⟨way, told, c0, c2, rfl, bt.mono (by decide), ha2, B2.mono (by omega), ne2⟩
  rintro τ2 h2 ⟨way, told, c0, c2, rfl, bt, ha2, B2, ne2⟩
  walk_at "dv go"
  refine ⟨a, 2, c0, b1, c2, n + 26, rfl, ha2, B2, by decide, by omega, fun x d0 d2 h3 x0 x1 B3 u3 => ?_⟩
  walk_at "dv go"
  exact ⟨_, Ext.refl _, z _ d0 d2 _ ((bt.mul (n := 2) (show Bd 2 (1 - 2 * x) by unfold Bd; omega)).mono (by decide)) (B3.mono (by omega)) ⟨u3.at_, fun b hb => (u3.ne b hb).trans (ne2 b hb)⟩⟩
theorem ok_law_gcd {f : Addr} {fd : FuncData} (F : FunD K "_law_gcd" "_law_gcd" (defArgs s_law_gcd) (defBody s_law_gcd) (defScope s_law_gcd) [] [] f fd) (bl : ∀ x ∈ BL, mg x = none) :
    FnOk P w K mg base (L2.CX P w) 1 f fd ["a", "b"] (spOf K spGcd) := by
  refine def_ok (T := fun P w K mg base => True) F sc_law_gcd sb_law_gcd trivial bl (fun ds h Q E ⟨_, _, e, _⟩ => by rw [e]; rfl) fun X ds h Q E _ ⟨C, hc, hr, tk⟩ z => ?_
  obtain ⟨a, b, rfl, z⟩ := z
  dsimp only [startD, N_law_gcd]
  refine wB_cons ?_
  walk_at "dv go"
  have ab : ∀ x : Int, (if x < 0 then -x else x) = (x.natAbs : Int) := fun x => by split <;> omega
  rw [ab, ab]
  refine wS_while C (fun m τ' h' => ∃ (x y : Nat) (r : Option D), τ' = [some (.int x), some (.int y), r] ∧ m = y ∧ Nat.gcd x y = Nat.gcd a.natAbs b.natAbs ∧ h' = h) b.natAbs ⟨_, _, none, rfl, rfl, rfl, rfl⟩ ?_
  rintro m τ1 h1 ⟨x, y, r, rfl, e0, hg, rfl⟩
  subst e0
  walk_at "dv go"
  refine ways (fun h0 => ?_) (fun h0 => ?_)
  · walk_at "dv go"
    refine b_modP h0 fun r r0 r1 er => ?_
    walk_at "dv go"
    refine ⟨x % m, Nat.mod_lt _ (by omega), m, x % m, some (.int r), by rw [er]; rfl, rfl, ?_, rfl⟩
    rw [← hg, Nat.gcd_comm x m, Nat.gcd_rec m x, Nat.gcd_comm]
  · walk_at "dv go"
    have e : m = 0 := by omega
    subst e
    rw [Nat.gcd_zero_right] at hg
    rw [← hg] at z
    exact ⟨_, Ext.refl _, z⟩
theorem ok_law_lowest {f : Addr} {fd : FuncData} (F : FunD K "_law_lowest" "_law_lowest" (defArgs s_law_lowest) (defBody s_law_lowest) (defScope s_law_lowest) [] [] f fd) (bl : ∀ x ∈ BL, mg x = none) (T : FnG P w K mg base "_law_gcd" [] 1 spGcd) :
    FnOk P w K mg base (L2.CX P w) 2 f fd ["top", "low"] (spOf K spLowest) := by
  refine def_ok (T := fun P w K mg base => FnG P w K mg base "_law_gcd" [] 1 spGcd) F sc_law_lowest sb_law_lowest T bl (fun ds h Q E ⟨_, _, e, _⟩ => by rw [e]; rfl) fun X ds h Q E F1 ⟨C, hc, hr, tk⟩ z => ?_
  obtain ⟨a, b, rfl, hb0, hb, z⟩ := z
  dsimp only [startD, N_law_lowest]
  have g0 := gcd_ne (n := a) hb0
  have gb := gcd_bd (n := a) hb0 hb
  refine wB_cons ?_
  walk_at "dv go"
  refine ⟨a, b, rfl, ?_⟩
  walk_at "dv go"
  refine ways (fun h2 => ?_) (fun h2 => ?_)
  · walk_at "dv go"
    refine b_div (Bd.div (by omega) gb.neg (by decide) (by decide)) ?_
    walk_at "dv go"
    refine b_div (Bd.div (by omega) gb.neg (by decide) (by decide)) ?_
    walk_at "dv go"
    refine ⟨h, Ext.refl h, ?_⟩
    rw [low, lowC, if_pos h2] at z
    exact z
  · walk_at "dv go"
    refine b_div (Bd.div g0 gb (by decide) (by decide)) ?_
    walk_at "dv go"
    refine b_div (Bd.div g0 gb (by decide) (by decide)) ?_
    walk_at "dv go"
    refine ⟨h, Ext.refl h, ?_⟩
    rw [low, lowC, if_neg h2] at z
    exact z
theorem ok_law_is_integer {f : Addr} {fd : FuncData} (F : FunD K "_law_is_integer" "_law_is_integer" (defArgs s_law_is_integer) (defBody s_law_is_integer) (defScope s_law_is_integer) [] [] f fd) (bl : ∀ x ∈ BL, mg x = none) :
    FnOk P w K mg base (L2.CX P w) 1 f fd ["told"] (spOf K spIsInt) := by
  refine def_ok (T := fun P w K mg base => True) F sc_law_is_integer sb_law_is_integer trivial bl (fun ds h Q E ⟨_, e, _⟩ => by rw [e]; rfl) fun X ds h Q E _ ⟨C, hc, hr, tk⟩ z => ?_
  obtain ⟨a, rfl, z⟩ := z
  dsimp only [startD, N_law_is_integer]
  refine wB_cons ?_
  walk_at "dv go"
  exact ⟨_, Ext.refl _, z⟩
theorem ok_law_is {f : Addr} {fd : FuncData} (F : FunD K "_law_is" "_law_is" (defArgs s_law_is) (defBody s_law_is) (defScope s_law_is) [] [] f fd) (bl : ∀ x ∈ BL, mg x = none) (T : FnG P w K mg base "_law_gcd" [] 1 spGcd ∧ FnG P w K mg base "_law_is_integer" [] 1 spIsInt) :
    FnOk P w K mg base (L2.CX P w) 2 f fd ["told", "top", "low"] (spOf K spIs) := by
  refine def_ok (T := fun P w K mg base => FnG P w K mg base "_law_gcd" [] 1 spGcd ∧ FnG P w K mg base "_law_is_integer" [] 1 spIsInt) F sc_law_is sb_law_is T bl (fun ds h Q E ⟨_, _, _, e, _⟩ => by rw [e]; rfl) fun X ds h Q E ⟨F1, F2⟩ ⟨C, hc, hr, tk⟩ z => ?_
  obtain ⟨⟨p1, p2⟩, n, d, rfl, b1, b2, b3, b4, I, z⟩ := z
  have i1 := I.pos
  have i2 := I.cop
  have i3 := I.eq
  dsimp only [startD, N_law_is, fr] at *
  refine wB_cons ?_
  walk_at "dv go"
  refine ⟨p1, rfl, ?_⟩
  walk_at "dv go"
  refine ⟨p2, rfl, ?_⟩
  walk_at "dv go"
  refine ways_n (by omega) ?_
  walk_at "dv go"
  refine ⟨p1, p2, rfl, ?_⟩
  walk_at "dv go"
  refine waysN_y (by rw [i2]; rfl) ?_
  walk_at "dv go"
  rw [i3, decide_eq_true rfl]
  exact ⟨_, Ext.refl _, z⟩
end
/-! numbers: lowest form -/
theorem lowC_ne {n d : Int} (h : d ≠ 0) : lowC n d ≠ 0 := by
  have := gcd_ne (n := n) h
  unfold lowC
  split <;> omega
theorem lowC_abs {n d : Int} : (lowC n d).natAbs = Nat.gcd n.natAbs d.natAbs := by
  unfold lowC
  split <;> omega
theorem lowC_dvd1 {n d : Int} : lowC n d ∣ n := by
  rw [← Int.natAbs_dvd_natAbs, lowC_abs]
  exact Nat.gcd_dvd_left _ _
theorem lowC_dvd2 {n d : Int} : lowC n d ∣ d := by
  rw [← Int.natAbs_dvd_natAbs, lowC_abs]
  exact Nat.gcd_dvd_right _ _
theorem low1 {n d : Int} : (low n d).1 * lowC n d = n := Int.fdiv_mul_cancel lowC_dvd1
theorem low2 {n d : Int} : (low n d).2 * lowC n d = d := Int.fdiv_mul_cancel lowC_dvd2
theorem low_pos {n d : Int} (h : d ≠ 0) : 1 ≤ (low n d).2 := by
  have e := low2 (n := n) (d := d)
  have g := gcd_ne (n := n) h
  by_cases hd : d < 0
  · have c : lowC n d < 0 := by
      unfold lowC
      rw [if_pos hd]
      omega
    rcases Int.lt_or_le 0 (low n d).2 with q | q
    · omega
    · have := Int.mul_nonneg_of_nonpos_of_nonpos q (Int.le_of_lt c)
      omega
  · have c : 0 < lowC n d := by
      unfold lowC
      rw [if_neg hd]
      omega
    rcases Int.lt_or_le 0 (low n d).2 with q | q
    · omega
    · have := Int.mul_nonpos_of_nonpos_of_nonneg q (Int.le_of_lt c)
      omega
theorem low_is {n d : Int} (h : d ≠ 0) : Is (low n d) n d := by
  refine ⟨low_pos h, ?_, ?_⟩
  · have g : 0 < Nat.gcd n.natAbs d.natAbs := by
      have := gcd_ne (n := n) h
      omega
    have e1 : (low n d).1.natAbs = n.natAbs / Nat.gcd n.natAbs d.natAbs := by
      have e := congrArg Int.natAbs (low1 (n := n) (d := d))
      rw [Int.natAbs_mul, lowC_abs] at e
      exact (Nat.div_eq_of_eq_mul_left g e.symm).symm
    have e2 : (low n d).2.natAbs = d.natAbs / Nat.gcd n.natAbs d.natAbs := by
      have e := congrArg Int.natAbs (low2 (n := n) (d := d))
      rw [Int.natAbs_mul, lowC_abs] at e
      exact (Nat.div_eq_of_eq_mul_left g e.symm).symm
    rw [e1, e2]
    exact Nat.coprime_div_gcd_div_gcd g
  · have e1 := low1 (n := n) (d := d)
    have e2 := low2 (n := n) (d := d)
    calc (low n d).1 * d = (low n d).1 * ((low n d).2 * lowC n d) := by rw [e2]
      _ = ((low n d).1 * lowC n d) * (low n d).2 := by rw [Int.mul_comm (low n d).2, Int.mul_assoc]
      _ = n * (low n d).2 := by rw [e1]
theorem le_mul_abs {a b : Int} (h : b ≠ 0) : a.natAbs ≤ (a * b).natAbs := by
  rw [Int.natAbs_mul]
  exact Nat.le_mul_of_pos_right _ (by omega)
theorem low_b1 {k : Nat} {n d : Int} (h : d ≠ 0) (b : Bd k n) : Bd k (low n d).1 := b.le (by
  have := le_mul_abs (a := (low n d).1) (lowC_ne (n := n) h)
  rw [low1] at this
  exact this)
theorem low_b2 {k : Nat} {n d : Int} (h : d ≠ 0) (b : Bd k d) : Bd k (low n d).2 := b.le (by
  have := le_mul_abs (a := (low n d).2) (lowC_ne (n := n) h)
  rw [low2] at this
  exact this)
theorem frac_is {n d : Int} (h : d ≠ 0) : Is (frac n d) n d := by
  unfold frac
  split
  · rename_i e
    subst e
    exact ⟨Int.le_refl 1, Nat.gcd_one_right _, rfl⟩
  · exact low_is h
theorem frac_b1 {k : Nat} {n d : Int} (h : d ≠ 0) (b : Bd k n) : Bd k (frac n d).1 := by
  unfold frac
  split
  · exact b
  · exact low_b1 h b
theorem frac_b2 {k : Nat} {n d : Int} (h : d ≠ 0) (b : Bd k d) : Bd k (frac n d).2 := by
  unfold frac
  split
  · rename_i e
    subst e
    exact b
  · exact low_b2 h b
theorem Is.scale {p : Int × Int} {n d : Int} (i : Is p n d) (k : Int) : Is p (n * k) (d * k) := ⟨i.pos, i.cop, by
  rw [← Int.mul_assoc, i.eq, Int.mul_assoc, Int.mul_assoc, Int.mul_comm k]⟩
theorem fsum_is {p q : Int × Int} (hp : p.2 ≠ 0) (hq : q.2 ≠ 0) : Is (fsum p q) (p.1 * q.2 + q.1 * p.2) (p.2 * q.2) := by
  unfold fsum
  split
  · rename_i e
    have := (frac_is (n := p.1 + q.1) hp).scale p.2
    rw [Int.add_mul] at this
    rw [← e]
    exact this
  · exact frac_is (Int.mul_ne_zero hp hq)
theorem fprod_is {p q : Int × Int} (hp : p.2 ≠ 0) (hq : q.2 ≠ 0) : Is (fprod p q) (p.1 * q.1) (p.2 * q.2) := frac_is (Int.mul_ne_zero hp hq)
theorem fquot_is {p q : Int × Int} (hp : p.2 ≠ 0) (hq : q.1 ≠ 0) : Is (fquot p q) (p.1 * q.2) (p.2 * q.1) := frac_is (Int.mul_ne_zero hp hq)
theorem fsum_b {k : Nat} {p q : Int × Int} (hp : p.2 ≠ 0) (hq : q.2 ≠ 0) (b1 : Bd k p.1) (b2 : Bd k p.2) (b3 : Bd k q.1) (b4 : Bd k q.2) : Bd (k + k + 1) (fsum p q).1 ∧ Bd (k + k + 1) (fsum p q).2 := by
  unfold fsum
  split
  · exact ⟨frac_b1 hp ((b1.add b3).mono (by omega)), frac_b2 hp (b2.mono (by omega))⟩
  · exact ⟨frac_b1 (Int.mul_ne_zero hp hq) ((b1.mul b4).add (b3.mul b2)), frac_b2 (Int.mul_ne_zero hp hq) ((b2.mul b4).mono (by omega))⟩
theorem fcmp_due {p q : Int × Int} : fcmp p q = (if 0 < p.1 * q.2 - q.1 * p.2 then 1 else 0) - (if p.1 * q.2 - q.1 * p.2 < 0 then 1 else 0) := by
  unfold fcmp
  by_cases h1 : p.1 * q.2 < q.1 * p.2
  · rw [if_pos h1, if_neg (by omega), if_pos (by omega)]
    rfl
  · rw [if_neg h1]
    by_cases h2 : q.1 * p.2 < p.1 * q.2
    · rw [if_pos h2, if_pos (by omega), if_neg (by omega)]
      rfl
    · rw [if_neg h2, if_neg (by omega), if_neg (by omega)]
      rfl
theorem fcmp_back {p q : Int × Int} : fcmp q p = -fcmp p q := by
  unfold fcmp
  by_cases h1 : p.1 * q.2 < q.1 * p.2
  · rw [if_pos h1, if_neg (by omega), if_pos h1]
    rfl
  · rw [if_neg h1]
    by_cases h2 : q.1 * p.2 < p.1 * q.2
    · rw [if_pos h2, if_pos h2, if_neg h1]
    · rw [if_neg h2, if_neg h2, if_neg h1]
      rfl
/-! the law's drawn fractions -/
/-- a drawn fraction -/
structure FR (p : Int × Int) : Prop where
  b1 : Bd 230 p.1
  b2 : Bd 230 p.2
  pos : 1 ≤ p.2
def scr (ns : List Int) : D := .fz (ns.map D.int)
def spDrawn : SpD := fun ds h Q E => ∃ (ns : List Int) (k : Int), ds = [scr ns, .int k] ∧ (0 ≤ k ∧ k ≤ 990) ∧ ∀ p, FR p → Bd 220 p.1 → Bd 220 p.2 → Q (fr p) h
def spSecond : SpD := fun ds h Q E => ∃ (ns : List Int) (k : Int) (p : Int × Int), ds = [scr ns, .int k, fr p] ∧ (0 ≤ k ∧ k ≤ 980) ∧ FR p ∧ Bd 220 p.1 ∧ Bd 220 p.2 ∧ ∀ q, FR q → Q (fr q) h
theorem new_ext {h0 h : HD} {p : Addr} {o : DO} (e : Ext h0 h) (n : h p = none) : Ext h0 (hset h p o) := e.trans (Ext.new n)
theorem ext_none {h0 h : HD} {p : Addr} (e : Ext h0 h) (n : h p = none) : h0 p = none := by
  cases q : h0 p with
  | none => rfl
  | some o => rw [e p o q] at n; cases n
section
variable {P : Program} {w : World} {K : PySem.W.Frag} {mg : Str → Option Value} {base : Heap} {Z : Addr}
abbrev TB (P : Program) (w : World) (K : PySem.W.Frag) (mg : Str → Option Value) (base : Heap) : Prop := FnG P w K mg base "_law_box" [] 1 spBox ∧ FnG P w K mg base "_law_take" [] 1 spTake ∧ FnG P w K mg base "_law_long" [] 2 spLong ∧ FnG P w K mg base "_law_number" [] 3 spNumber ∧ FnG P w K mg base "_law_lowest" [] 2 spLowest
theorem ok_law_drawn {f : Addr} {fd : FuncData} (F : FunD K "_law_drawn" "_law_drawn" (defArgs s_law_drawn) (defBody s_law_drawn) (defScope s_law_drawn) [] [] f fd) (bl : ∀ x ∈ BL, mg x = none) (T : TB P w K mg base) :
    FnOk P w K mg base (L2.CX P w) 4 f fd ["script", "place"] (spOf K spDrawn) := by
  refine def_ok (T := TB) F sc_law_drawn sb_law_drawn T bl (fun ds h Q E ⟨_, _, e, _⟩ => by rw [e]; rfl) fun X ds h Q E ⟨F1, F2, F3, F4, F5⟩ ⟨C, hc, hr, tk⟩ z => ?_
  obtain ⟨ns, k, rfl, ⟨k0, k1⟩, z⟩ := z
  dsimp only [startD, N_law_drawn]
  have hb : Bd 200 1000000000000000000000000000000000000000000000000000000000000 := by unfold Bd; decide +kernel
  refine wB_cons ?_
  walk_at "dv go"
  refine ⟨ns, k, rfl, ⟨k0, by omega⟩, fun p b0 b1 hp B => ?_⟩
  walk_at "dv go"
  refine ⟨p, 10, _, b0, b1, 0, 0, rfl, hset_same, B, by decide, hb, by decide, fun n c0 c2 h1 bn _ u1 => ?_⟩
  have x1 : Ext h h1 := u1.ext (Ext.new hp) hp
  walk_at "dv go"
  refine ⟨ns, k + 1, rfl, ⟨by omega, by omega⟩, fun q b0 b1 hq B => ?_⟩
  walk_at "dv go"
  refine ⟨q, 10, _, b0, b1, 0, 0, rfl, hset_same, B, by decide, hb, by decide, fun d c0 c2 h2 bd _ u2 => ?_⟩
  have x2 : Ext h h2 := u2.ext (new_ext x1 hq) (ext_none x1 hq)
  refine wB_mid (fun τ' h' => ∃ d : Int, τ' = [some (scr ns), some (.int k), some (.int n), some (.int d)] ∧ Ext h h' ∧ Bd 212 d ∧ d ≠ 0) ?_ ?_
  · walk_at "dv go"
    refine ways (fun h0 => ?_) fun h0 => ?_
    · walk_at "dv go"
      refine b_divP (by decide) (by decide) ?_
      walk_at "dv go"
      refine ⟨x2, ?_, ?_⟩
      · refine (Bd.add' (m := 1) (n := 210) (by unfold Bd; decide) (bn.absI.le ?_)).mono (by decide)
        split <;> omega
      · split <;> omega
    · walk_at "dv go"
      exact ⟨x2, bd.mono (by decide), h0⟩
  · rintro τ3 h3 ⟨d, rfl, x3, bd, d0⟩
    walk_at "dv go"
    exact ⟨n, d, rfl, d0, bd.mono (by decide), _, x3, z _ ⟨low_b1 d0 (bn.mono (by decide)), low_b2 d0 (bd.mono (by decide)), low_pos d0⟩ (low_b1 d0 (bn.mono (by decide))) (low_b2 d0 (bd.mono (by decide)))⟩
theorem ok_law_second {f : Addr} {fd : FuncData} (F : FunD K "_law_second" "_law_second" (defArgs s_law_second) (defBody s_law_second) (defScope s_law_second) [] [] f fd) (bl : ∀ x ∈ BL, mg x = none) (T : TB P w K mg base ∧ FnG P w K mg base "_law_drawn" [] 4 spDrawn) :
    FnOk P w K mg base (L2.CX P w) 5 f fd ["script", "place", "one"] (spOf K spSecond) := by
  refine def_ok (T := fun P w K mg base => TB P w K mg base ∧ FnG P w K mg base "_law_drawn" [] 4 spDrawn) F sc_law_second sb_law_second T bl (fun ds h Q E ⟨_, _, _, e, _⟩ => by rw [e]; rfl) fun X ds h Q E ⟨⟨F1, F2, F3, F4, F5⟩, F6⟩ ⟨C, hc, hr, tk⟩ z => ?_
  obtain ⟨ns, k, ⟨a, b⟩, rfl, ⟨k0, k1⟩, ⟨_, _, pos⟩, ba, bb, z⟩ := z
  dsimp only at pos ba bb
  dsimp only [startD, N_law_second, fr] at *
  refine wB_cons ?_
  walk_at "dv go"
  refine ⟨ns, k + 2, rfl, ⟨by omega, by omega⟩, fun p b0 b1 hp B => ?_⟩
  walk_at "dv go"
  refine ⟨p, 11, _, _, _, _, rfl, hset_same, B, by decide, by decide, fun way c0 c2 h1 w0 w1 _ u1 => ?_⟩
  have x1 : Ext h h1 := u1.ext (Ext.new hp) hp
  walk_at "dv go"
  have hx : Bd 230 ((a - 2 * if decide (0 < a) = true then 1 else 0) + 1) := (Bd.add' (Bd.sub' ba ((show Bd 2 (2 : Int) by unfold Bd; decide).mul Bd.ite)) (show Bd 1 (1 : Int) by unfold Bd; decide)).mono (by decide)
  walk_at "dv all"
  all_goals first
    | exact ⟨h, x1, z (a, b) ⟨ba.mono (by decide), bb.mono (by decide), pos⟩⟩
    | exact ⟨h, x1, z (-a, b) ⟨ba.neg.mono (by decide), bb.mono (by decide), pos⟩⟩
    | exact ⟨h, x1, z (0, 1) ⟨by unfold Bd; decide +kernel, by unfold Bd; decide +kernel, by decide⟩⟩
    | exact ⟨_, _, rfl, by omega, bb.mono (by decide), h, x1, z _ ⟨low_b1 (by omega) hx, low_b2 (by omega) (bb.mono (by decide)), low_pos (by omega)⟩⟩
    | exact ⟨_, _, rfl, by omega, ba.mono (by decide), h, x1, z _ ⟨low_b1 (by omega) (bb.mono (by decide)), low_b2 (by omega) (ba.mono (by decide)), low_pos (by omega)⟩⟩
    | exact ⟨ns, k, rfl, ⟨k0, by omega⟩, fun p fp _ _ => ⟨h, x1, z p fp⟩⟩
/-! the law's questions -/
/-- the exceptions of the package: Z is ZeroDivisor, Zp ZeroPolynomial, R RowError -/
structure TE (Z Zp R : Addr) (mg : Str → Option Value) (K : PySem.W.Frag) : Prop where
  zd : mg "ZeroDivisor" = some (.ref Z)
  zp : mg "ZeroPolynomial" = some (.ref Zp)
  re : mg "RowError" = some (.ref R)
  exm : PySem.W.exmOne K (.ref Z) (.ref R) = some true
  ec : ExcC K Z
  k1 : PySem.W.kitOne K (.ref Z) (.ref Z) = some true
  k2 : PySem.W.kitOne K (.ref Z) (.type "ValueError") = some true
  k3 : PySem.W.kitOne K (.ref Z) (.ref Zp) = some false
def spDivided : SpD := fun ds h Q E => ∃ n d : Int, ds = [.int n, .int d] ∧ Bd 4000 n ∧ Bd 4000 d ∧ Q (.bl true) h
def spQuotient : SpD := fun ds h Q E => ∃ p q : Int × Int, ds = [fr p, fr q] ∧ FB p ∧ FB q ∧ Q (.bl true) h
theorem ok_law_divided {Zp R : Addr} {f : Addr} {fd : FuncData} (F : FunD K "_law_divided" "_law_divided" (defArgs s_law_divided) (defBody s_law_divided) (defScope s_law_divided) [] [] f fd) (bl : ∀ x ∈ BL, mg x = none)
    (T : TE Z Zp R mg K ∧ FnG P w K mg base "fraction" [] 1 (spFraction Z) ∧ FnG P w K mg base "_law_is" [] 2 spIs) :
    FnOk P w K mg base (L2.CX P w) 3 f fd ["top", "low"] (spOf K spDivided) := by
  refine def_oks (T := fun P w K mg base => TE Z Zp R mg K ∧ FnG P w K mg base "fraction" [] 1 (spFraction Z) ∧ FnG P w K mg base "_law_is" [] 2 spIs) F sc_law_divided sb_law_divided T bl (fun ds h Q E ⟨_, _, e, _⟩ => by rw [e]; rfl) fun X ds h Q E hsc ⟨T, F1, F2⟩ ⟨C, hc, hr, tk⟩ z => ?_
  obtain ⟨n, d, rfl, bn, bd, z⟩ := z
  dsimp only [startD, N_law_divided] at *
  refine wB_cons ?_
  walk_at "dv go"
  refine wS_mid (fun τ' h' => h' = h ∧ ((d = 0 ∧ τ' = [some (.int n), some (.int d), some .non, some (.bl true), none]) ∨ (d ≠ 0 ∧ τ' = [some (.int n), some (.int d), some (fr (frac n d)), some (.bl false), none]))) ?_ ?_
  · refine wS_tryas (i := 4) C rfl (by unfold Env.kindOf; rw [hsc]; decide +kernel) ⟨C.gl _ (by walk_at "dv mem"), (C.db _ (List.mem_append_right _ (by walk_at "dv mem"))).1, .inl T.re⟩ tk ?_
    intro H pn xe W po tk' hW
    have F1' : FnG (X.tr pn xe H).prog (X.tr pn xe H).w (X.tr pn xe H).K (X.tr pn xe H).mg (X.tr pn xe H).base "fraction" [] 1 (spFraction Z) := F1
    have C' : Cok (X.tr pn xe H) _ _ _ := C.tr po
    have hr' : Room 2 (X.tr pn xe H).A := hr
    walk_at "dv go"
    refine ⟨n, d, rfl, bd, fun h0 => ?_, fun h0 => ?_⟩
    · refine hW _ _ _ _ ⟨true, T.exm, fun _ a H1 oe pn1 od hz hf hd => ?_, fun e => Bool.noConfusion e⟩
      have hd := hd rfl
      subst hd
      have C2 : Cok (X.suite a ((a, oe) :: pn1) H1) _ _ _ := C.suite
      obtain ⟨e1, e2, e3, e4, e5, e6, e7, e8⟩ := T
      dsimp only [List.set]
      walk_at "dv go"
      exact ⟨rfl, .inl ⟨h0, rfl⟩⟩
    · walk_at "dv go"
      exact ⟨rfl, .inr ⟨h0, rfl⟩⟩
  · rintro τ' h' ⟨rfl, ⟨rfl, rfl⟩ | ⟨d0, rfl⟩⟩
    · walk_at "dv go"
      exact ⟨_, Ext.refl _, z⟩
    · walk_at "dv go"
      have b1 := frac_b1 (n := n) d0 bn
      have b2 := frac_b2 (n := n) d0 bd
      refine ⟨_, n, d, rfl, b1, b2, bn, bd, frac_is d0, ?_⟩
      walk_at "dv go"
      exact ⟨_, Ext.refl _, z⟩
theorem ok_law_quotient {Zp R : Addr} {f : Addr} {fd : FuncData} (F : FunD K "_law_quotient" "_law_quotient" (defArgs s_law_quotient) (defBody s_law_quotient) (defScope s_law_quotient) [] [] f fd) (bl : ∀ x ∈ BL, mg x = none)
    (T : TE Z Zp R mg K ∧ FnG P w K mg base "frac_quotient" [] 2 (spQuot Z) ∧ FnG P w K mg base "_law_is" [] 2 spIs) :
    FnOk P w K mg base (L2.CX P w) 3 f fd ["one", "two"] (spOf K spQuotient) := by
  refine def_oks (T := fun P w K mg base => TE Z Zp R mg K ∧ FnG P w K mg base "frac_quotient" [] 2 (spQuot Z) ∧ FnG P w K mg base "_law_is" [] 2 spIs) F sc_law_quotient sb_law_quotient T bl (fun ds h Q E ⟨_, _, e, _⟩ => by rw [e]; rfl) fun X ds h Q E hsc ⟨T, F1, F2⟩ ⟨C, hc, hr, tk⟩ z => ?_
  obtain ⟨⟨a, b⟩, ⟨c, d⟩, rfl, fp, fq, z⟩ := z
  have fp' := fp
  have fq' := fq
  obtain ⟨ba, bb, b0⟩ := fp'
  obtain ⟨bc, bd, d0⟩ := fq'
  dsimp only at ba bb b0 bc bd d0
  dsimp only [startD, N_law_quotient, fr] at *
  refine wB_cons ?_
  walk_at "dv go"
  refine wS_mid (fun τ' h' => h' = h ∧ ((c = 0 ∧ τ' = [some (fr (a, b)), some (fr (c, d)), some .non, some (.bl true), none]) ∨ (c ≠ 0 ∧ τ' = [some (fr (a, b)), some (fr (c, d)), some (fr (fquot (a, b) (c, d))), some (.bl false), none]))) ?_ ?_
  · refine wS_tryas (i := 4) C rfl (by unfold Env.kindOf; rw [hsc]; decide +kernel) ⟨C.gl _ (by walk_at "dv mem"), (C.db _ (List.mem_append_right _ (by walk_at "dv mem"))).1, .inl T.re⟩ tk ?_
    intro H pn xe W po tk' hW
    have F1' : FnG (X.tr pn xe H).prog (X.tr pn xe H).w (X.tr pn xe H).K (X.tr pn xe H).mg (X.tr pn xe H).base "frac_quotient" [] 2 (spQuot Z) := F1
    have C' : Cok (X.tr pn xe H) _ _ _ := C.tr po
    have hr' : Room 2 (X.tr pn xe H).A := hr
    walk_at "dv go"
    refine ⟨(a, b), (c, d), rfl, fp, fq, fun h0 => ?_, fun h0 => ?_⟩
    · refine hW _ _ _ _ ⟨true, T.exm, fun _ a H1 oe pn1 od hz hf hd => ?_, fun e => Bool.noConfusion e⟩
      have hd := hd rfl
      subst hd
      have C2 : Cok (X.suite a ((a, oe) :: pn1) H1) _ _ _ := C.suite
      obtain ⟨e1, e2, e3, e4, e5, e6, e7, e8⟩ := T
      dsimp only [List.set]
      walk_at "dv go"
      exact ⟨rfl, .inl ⟨h0, rfl⟩⟩
    · walk_at "dv go"
      exact ⟨rfl, .inr ⟨h0, rfl⟩⟩
  · rintro τ' h' ⟨rfl, ⟨rfl, rfl⟩ | ⟨c0, rfl⟩⟩
    · dsimp only [fr]
      walk_at "dv go"
      exact ⟨_, Ext.refl _, z⟩
    · dsimp only [fr]
      walk_at "dv go"
      have bn := ba.mul bd
      have be := bb.mul bc
      have e0 := Int.mul_ne_zero b0 c0
      have b1 := frac_b1 e0 bn
      have b2 := frac_b2 (n := a * d) e0 be
      refine ⟨fquot (a, b) (c, d), _, _, rfl, b1.mono (by decide), b2.mono (by decide), bn.mono (by decide), be.mono (by decide), fquot_is b0 c0, ?_⟩
      walk_at "dv go"
      exact ⟨_, Ext.refl _, z⟩
def spCompared : SpD := fun ds h Q E => ∃ p q : Int × Int, ds = [fr p, fr q] ∧ FB p ∧ FB q ∧ Q (.bl true) h
theorem ok_law_compared {f : Addr} {fd : FuncData} (F : FunD K "_law_compared" "_law_compared" (defArgs s_law_compared) (defBody s_law_compared) (defScope s_law_compared) [] [] f fd) (bl : ∀ x ∈ BL, mg x = none)
    (T : FnG P w K mg base "compare" [] 1 spCmp ∧ FnG P w K mg base "_law_is_integer" [] 1 spIsInt) :
    FnOk P w K mg base (L2.CX P w) 2 f fd ["one", "two"] (spOf K spCompared) := by
  refine def_ok (T := fun P w K mg base => FnG P w K mg base "compare" [] 1 spCmp ∧ FnG P w K mg base "_law_is_integer" [] 1 spIsInt) F sc_law_compared sb_law_compared T bl (fun ds h Q E ⟨_, _, e, _⟩ => by rw [e]; rfl) fun X ds h Q E ⟨F1, F2⟩ ⟨C, hc, hr, tk⟩ z => ?_
  obtain ⟨⟨a, b⟩, ⟨c, d⟩, rfl, fp, fq, z⟩ := z
  have fp' := fp
  have fq' := fq
  obtain ⟨ba, bb, b0⟩ := fp'
  obtain ⟨bc, bd, d0⟩ := fq'
  dsimp only at ba bb b0 bc bd d0
  have e1 := fcmp_due (p := (a, b)) (q := (c, d))
  have e2 := fcmp_back (p := (a, b)) (q := (c, d))
  dsimp only [startD, N_law_compared, fr] at *
  refine wB_cons ?_
  walk_at "dv go"
  refine ⟨(a, b), (c, d), rfl, fp, fq, ?_⟩
  walk_at "dv go"
  refine ⟨(c, d), (a, b), rfl, fq, fp, ?_⟩
  walk_at "dv go"
  refine ⟨_, rfl, ?_⟩
  walk_at "dv go"
  refine ⟨_, rfl, ?_⟩
  walk_at "dv go"
  have e1' : fcmp (a, b) (c, d) = (if decide (0 < a * d - c * b) = true then 1 else 0) - if decide (a * d - c * b < 0) = true then 1 else 0 := by
    rw [e1]
    simp only [decide_eq_true_eq]
  refine ways_y e1' ?_
  walk_at "dv go"
  rw [decide_eq_true (show fcmp (c, d) (a, b) = -((if decide (0 < a * d - c * b) = true then 1 else 0) - if decide (a * d - c * b < 0) = true then 1 else 0) by rw [e2, e1'])]
  exact ⟨_, Ext.refl _, z⟩
def spNumbers : SpD := fun ds h Q E => ∃ (ns : List Int) (k : Int), ds = [scr ns, .int k] ∧ (0 ≤ k ∧ k ≤ 980) ∧ ∀ n d, Bd 500 n → Bd 500 d → Q (fr (n, d)) h
theorem ok_law_numbers {f : Addr} {fd : FuncData} (F : FunD K "_law_numbers" "_law_numbers" (defArgs s_law_numbers) (defBody s_law_numbers) (defScope s_law_numbers) [] [] f fd) (bl : ∀ x ∈ BL, mg x = none) (T : TB P w K mg base) :
    FnOk P w K mg base (L2.CX P w) 4 f fd ["script", "place"] (spOf K spNumbers) := by
  refine def_ok (T := TB) F sc_law_numbers sb_law_numbers T bl (fun ds h Q E ⟨_, _, e, _⟩ => by rw [e]; rfl) fun X ds h Q E ⟨F1, F2, F3, F4, F5⟩ ⟨C, hc, hr, tk⟩ z => ?_
  obtain ⟨ns, k, rfl, ⟨k0, k1⟩, z⟩ := z
  have hb : Bd 200 1000000000000000000000000000000000000000000000000000000000000 := by unfold Bd; decide +kernel
  have hb3 : Bd 200 1000000000000000000000000000000 := by unfold Bd; decide +kernel
  dsimp only [startD, N_law_numbers, fr] at *
  refine wB_cons ?_
  walk_at "dv go"
  refine ⟨ns, k + 2, rfl, ⟨by omega, by omega⟩, fun p b0 b1 hp B => ?_⟩
  walk_at "dv go"
  refine ⟨p, 2, _, _, _, 0, rfl, hset_same, B, by decide, by decide, fun way c0 c2 h1 w0 w1 B1 u1 => ?_⟩
  have x1 : Ext h h1 := u1.ext (Ext.new hp) hp
  have hp1 := u1.at_
  walk_at "dv go"
  refine ways (fun h0 => ?_) (fun h0 => ?_)
  · walk_at "dv go"
    refine ⟨ns, k, rfl, ⟨by omega, by omega⟩, fun q b0 b1 hq B2 => ?_⟩
    walk_at "dv go"
    refine ⟨q, 10, _, b0, b1, 0, 0, rfl, hset_same, B2, by decide, hb, by decide, fun n _ _ h2 bn _ u2 => ?_⟩
    have x2 : Ext h h2 := u2.ext (new_ext x1 hq) (ext_none x1 hq)
    walk_at "dv go"
    refine ⟨ns, k + 1, rfl, ⟨by omega, by omega⟩, fun q3 b0 b1 hq3 B3 => ?_⟩
    walk_at "dv go"
    refine ⟨q3, 10, _, b0, b1, 0, 0, rfl, hset_same, B3, by decide, hb, by decide, fun d _ _ h3 bd _ u3 => ?_⟩
    have x3 : Ext h h3 := u3.ext (new_ext x2 hq3) (ext_none x2 hq3)
    walk_at "dv go"
    exact ⟨_, x3, z n d (bn.mono (by decide)) (bd.mono (by decide))⟩
  · walk_at "dv go"
    refine ⟨p, 5, _, _, _, _, rfl, hp1, B1, by decide, by decide, fun sh _ _ h5 s0 s1 _ u5 => ?_⟩
    have bs : Bd 120 sh := bd_of s0 (Int.lt_of_lt_of_le s1 (pow2_le (by decide)))
    have x5 : Ext h h5 := u5.ext x1 hp
    walk_at "dv go"
    refine ⟨ns, k, rfl, ⟨by omega, by omega⟩, fun q b0 b1 hq B2 => ?_⟩
    walk_at "dv go"
    refine ⟨q, 5, _, b0, b1, 0, 0, rfl, hset_same, B2, by decide, hb3, by decide, fun n _ _ h2 bn _ u2 => ?_⟩
    have x2 : Ext h h2 := u2.ext (new_ext x5 hq) (ext_none x5 hq)
    walk_at "dv go"
    refine ⟨ns, k + 1, rfl, ⟨by omega, by omega⟩, fun q3 b0 b1 hq3 B3 => ?_⟩
    walk_at "dv go"
    refine ⟨q3, 5, _, b0, b1, 0, 0, rfl, hset_same, B3, by decide, hb3, by decide, fun d _ _ h3 bd _ u3 => ?_⟩
    have x3 : Ext h h3 := u3.ext (new_ext x2 hq3) (ext_none x2 hq3)
    walk_at "dv go"
    exact ⟨_, x3, z _ _ ((bn.mul ((show Bd 1 (1 : Int) by unfold Bd; decide).add' bs)).mono (by decide)) ((bd.mul ((show Bd 1 (1 : Int) by unfold Bd; decide).add' bs)).mono (by decide))⟩
def spOperations : SpD := fun ds h Q E => ∃ p q : Int × Int, ds = [fr p, fr q] ∧ FR p ∧ FR q ∧ Q (.bl true) h
theorem FR.fb {p : Int × Int} (h : FR p) : FB p := ⟨h.b1.mono (by decide), h.b2.mono (by decide), by have := h.pos; omega⟩
theorem ok_law_operations {f : Addr} {fd : FuncData} (F : FunD K "_law_operations" "_law_operations" (defArgs s_law_operations) (defBody s_law_operations) (defScope s_law_operations) [] [] f fd) (bl : ∀ x ∈ BL, mg x = none)
    (T : FnG P w K mg base "frac_sum" [] 2 spSum ∧ FnG P w K mg base "frac_difference" [] 3 spDiff ∧ FnG P w K mg base "frac_product" [] 2 spProd ∧ FnG P w K mg base "_law_is" [] 2 spIs ∧ FnG P w K mg base "_law_quotient" [] 3 spQuotient) :
    FnOk P w K mg base (L2.CX P w) 4 f fd ["one", "two"] (spOf K spOperations) := by
  refine def_ok (T := fun P w K mg base => FnG P w K mg base "frac_sum" [] 2 spSum ∧ FnG P w K mg base "frac_difference" [] 3 spDiff ∧ FnG P w K mg base "frac_product" [] 2 spProd ∧ FnG P w K mg base "_law_is" [] 2 spIs ∧ FnG P w K mg base "_law_quotient" [] 3 spQuotient) F sc_law_operations sb_law_operations T bl (fun ds h Q E ⟨_, _, e, _⟩ => by rw [e]; rfl) fun X ds h Q E ⟨F1, F2, F3, F4, F5⟩ ⟨C, hc, hr, tk⟩ z => ?_
  obtain ⟨⟨a, b⟩, ⟨c, d⟩, rfl, fp, fq, z⟩ := z
  have fp' := fp
  have fq' := fq
  obtain ⟨ba, bb, b0⟩ := fp'
  obtain ⟨bc, bd, d0⟩ := fq'
  dsimp only at ba bb b0 bc bd d0
  have b1 : b ≠ 0 := by omega
  have d1 : d ≠ 0 := by omega
  have s1 := fsum_b (p := (a, b)) (q := (c, d)) b1 d1 ba bb bc bd
  have s2 := fsum_b (p := (a, b)) (q := (-c, d)) b1 d1 ba bb bc.neg bd
  have i1 := fsum_is (p := (a, b)) (q := (c, d)) b1 d1
  have i2 := fsum_is (p := (a, b)) (q := (-c, d)) b1 d1
  have i3 := fprod_is (p := (a, b)) (q := (c, d)) b1 d1
  have hbd := Int.mul_ne_zero b1 d1
  have p1 : Bd 1000 (fprod (a, b) (c, d)).1 := (frac_b1 hbd (ba.mul bc)).mono (by decide)
  have p2 : Bd 1000 (fprod (a, b) (c, d)).2 := (frac_b2 hbd (bb.mul bd)).mono (by decide)
  have bbd : Bd 4000 (b * d) := (bb.mul bd).mono (by decide)
  dsimp only [startD, N_law_operations, fr] at *
  refine wB_cons ?_
  walk_at "dv go"
  refine ⟨(a, b), (c, d), rfl, fp.fb, fq.fb, ?_⟩
  walk_at "dv go"
  refine ⟨fsum (a, b) (c, d), _, _, rfl, s1.1.mono (by decide), s1.2.mono (by decide), ((ba.mul bd).add (bc.mul bb)).mono (by decide), bbd, i1, ?_⟩
  walk_at "dv go"
  refine ⟨(a, b), (c, d), rfl, fp.fb, fq.fb, ?_⟩
  walk_at "dv go"
  rw [Int.neg_mul, ← Int.sub_eq_add_neg] at i2
  refine ⟨fsum (a, b) (-c, d), _, _, rfl, s2.1.mono (by decide), s2.2.mono (by decide), ((ba.mul bd).sub (bc.mul bb)).mono (by decide), bbd, i2, ?_⟩
  walk_at "dv go"
  refine ⟨(a, b), (c, d), rfl, fp.fb, fq.fb, ?_⟩
  walk_at "dv go"
  refine ⟨fprod (a, b) (c, d), _, _, rfl, p1.mono (by decide), p2.mono (by decide), (ba.mul bc).mono (by decide), bbd, i3, ?_⟩
  walk_at "dv go"
  refine ⟨(a, b), (c, d), rfl, fp.fb, fq.fb, ?_⟩
  walk_at "dv go"
  refine ⟨(c, d), (a, b), rfl, fq.fb, fp.fb, ?_⟩
  walk_at "dv go"
  refine ⟨(a, b), (0, 1), rfl, fp.fb, ⟨by unfold Bd; decide +kernel, by unfold Bd; decide +kernel, by decide⟩, ?_⟩
  walk_at "dv go"
  exact ⟨_, Ext.refl _, z⟩
end
/-! the law -/
def spByHand : SpD := fun ds h Q E => ds = [] ∧ Q (.bl true) h
def spLaw : SpD := fun ds h Q E => ∃ ns : List Int, ds = [scr ns] ∧ Q (.bl true) h
/-- two values the other way round -/
def sw {α : Type} (xs ys : List α) : List α := match ys with
  | [a, b] => [b, a]
  | _ => []
section
variable {P : Program} {w : World} {K : PySem.W.Frag} {mg : Str → Option Value} {base : Heap} {Z : Addr}
structure TH (Z : Addr) (P : Program) (w : World) (K : PySem.W.Frag) (mg : Str → Option Value) (base : Heap) : Prop where
  f1 : FnG P w K mg base "fraction" [] 1 (spFraction Z)
  f2 : Hide (FnG P w K mg base "fraction" [.int 1] 1 (spFraction Z))
  f3 : FnK P w K mg base "fraction" 0 ["d", "n"] sw 1 (spFraction Z)
  f4 : FnK P w K mg base "frac_difference" 0 ["y", "x"] sw 3 spDiff
  f5 : FnG P w K mg base "_law_is" [] 2 spIs
  f6 : FnG P w K mg base "_law_divided" [] 3 spDivided
  f7 : FnG P w K mg base "_law_quotient" [] 3 spQuotient
theorem ok_law_by_hand {f : Addr} {fd : FuncData} (F : FunD K "_law_by_hand" "_law_by_hand" (defArgs s_law_by_hand) (defBody s_law_by_hand) (defScope s_law_by_hand) [] [] f fd) (bl : ∀ x ∈ BL, mg x = none) (T : TH Z P w K mg base) :
    FnOk P w K mg base (L2.CX P w) 4 f fd [] (spOf K spByHand) := by
  refine def_ok (T := TH Z) F sc_law_by_hand sb_law_by_hand T bl (fun ds h Q E ⟨e, _⟩ => by rw [e]; rfl) fun X ds h Q E ⟨F1, F2, F3, F4, F5, F6, F7⟩ ⟨C, hc, hr, tk⟩ z => ?_
  obtain ⟨rfl, z⟩ := z
  dsimp only [startD, N_law_by_hand]
  have q1 : frac 6 (-4) = (-3, 2) := by decide +kernel
  have q2 : frac 0 (-7) = (0, 1) := by decide +kernel
  have q3 : frac 5 1 = (5, 1) := by decide +kernel
  have q4 : frac (-9) (-6) = (3, 2) := by decide +kernel
  have q5 : fsum (1, 2) (-1, 3) = (1, 6) := by decide +kernel
  have bs : ∀ {x : Int}, x.natAbs < 16 → ∀ {n : Nat}, 4 ≤ n → Bd n x := fun {x} hx {n} hn => Bd.mono (m := 4) hx hn
  have fb : ∀ {a b : Int}, a.natAbs < 16 → b.natAbs < 16 → b ≠ 0 → FB (a, b) := fun {a b} h1 h2 h3 => ⟨bs h1 (by decide), bs h2 (by decide), h3⟩
  refine wB_cons ?_
  walk_at "dv go"
  refine ⟨6, -4, rfl, bs (by decide) (by decide), fun e => absurd e (by decide), fun _ => ?_⟩
  rw [q1]
  walk_at "dv go"
  refine ⟨(-3, 2), -3, 2, rfl, bs (by decide) (by decide), bs (by decide) (by decide), bs (by decide) (by decide), bs (by decide) (by decide), ⟨by decide, by decide, by decide⟩, ?_⟩
  walk_at "dv go"
  refine ⟨0, -7, rfl, bs (by decide) (by decide), fun e => absurd e (by decide), fun _ => ?_⟩
  rw [q2]
  walk_at "dv go"
  refine ⟨(0, 1), 0, 1, rfl, bs (by decide) (by decide), bs (by decide) (by decide), bs (by decide) (by decide), bs (by decide) (by decide), ⟨by decide, by decide, by decide⟩, ?_⟩
  clear F1
  have F2' := F2.h
  walk_at "dv go"
  refine ⟨5, 1, rfl, bs (by decide) (by decide), fun e => absurd e (by decide), fun _ => ?_⟩
  rw [q3]
  walk_at "dv go"
  refine ⟨(5, 1), 5, 1, rfl, bs (by decide) (by decide), bs (by decide) (by decide), bs (by decide) (by decide), bs (by decide) (by decide), ⟨by decide, by decide, by decide⟩, ?_⟩
  walk_at "dv go"
  refine ⟨rfl, -9, -6, rfl, bs (by decide) (by decide), fun e => absurd e (by decide), fun _ => ?_⟩
  rw [q4]
  walk_at "dv go"
  refine ⟨(3, 2), 3, 2, rfl, bs (by decide) (by decide), bs (by decide) (by decide), bs (by decide) (by decide), bs (by decide) (by decide), ⟨by decide, by decide, by decide⟩, ?_⟩
  walk_at "dv go"
  refine ⟨rfl, (1, 2), (1, 3), rfl, fb (by decide) (by decide) (by decide), fb (by decide) (by decide) (by decide), ?_⟩
  rw [show fsum (1, 2) (-(1, (3 : Int)).1, (1, (3 : Int)).2) = (1, 6) from q5]
  walk_at "dv go"
  refine ⟨(1, 6), 1, 6, rfl, bs (by decide) (by decide), bs (by decide) (by decide), bs (by decide) (by decide), bs (by decide) (by decide), ⟨by decide, by decide, by decide⟩, ?_⟩
  walk_at "dv go"
  refine ⟨0, 0, rfl, bs (by decide) (by decide), bs (by decide) (by decide), ?_⟩
  walk_at "dv go"
  refine ⟨7, 0, rfl, bs (by decide) (by decide), bs (by decide) (by decide), ?_⟩
  walk_at "dv go"
  refine ⟨(0, 1), (0, 1), rfl, fb (by decide) (by decide) (by decide), fb (by decide) (by decide) (by decide), ?_⟩
  walk_at "dv go"
  exact ⟨_, Ext.refl _, z⟩
structure TL (Z : Addr) (P : Program) (w : World) (K : PySem.W.Frag) (mg : Str → Option Value) (base : Heap) : Prop where
  f1 : FnG P w K mg base "fraction" [.int 1] 1 (spFraction Z)
  f2 : FnG P w K mg base "_law_by_hand" [] 4 spByHand
  f3 : FnG P w K mg base "_law_box" [] 1 spBox
  f4 : FnG P w K mg base "_law_take" [] 1 spTake
  f5 : FnG P w K mg base "_law_is" [] 2 spIs
  f6 : FnG P w K mg base "_law_divided" [] 3 spDivided
  f7 : FnG P w K mg base "_law_numbers" [] 4 spNumbers
  f8 : FnG P w K mg base "_law_drawn" [] 4 spDrawn
  f9 : FnG P w K mg base "_law_second" [] 5 spSecond
  f10 : FnG P w K mg base "_law_operations" [] 4 spOperations
  f11 : FnG P w K mg base "_law_compared" [] 2 spCompared
theorem ok_law {f : Addr} {fd : FuncData} (F : FunD K "law" "law" (defArgs s_law) (defBody s_law) (defScope s_law) [] [] f fd) (bl : ∀ x ∈ BL, mg x = none) (T : TL Z P w K mg base) :
    FnOk P w K mg base (L2.CX P w) 6 f fd ["script"] (spOf K spLaw) := by
  refine def_ok (T := TL Z) F sc_law sb_law T bl (fun ds h Q E ⟨_, e, _⟩ => by rw [e]; rfl) fun X ds h Q E ⟨F1, F2, F3, F4, F5, F6, F7, F8, F9, F10, F11⟩ ⟨C, hc, hr, tk⟩ z => ?_
  obtain ⟨ns, rfl, z⟩ := z
  dsimp only [startD, N_law]
  refine wB_cons ?_
  walk_at "dv go"
  refine ⟨rfl, ?_⟩
  walk_at "dv go"
  refine wS_forR C hc (by walk_at "dv mem") ?_
  walk_at "dv go"
  refine ⟨ns, 0, rfl, ⟨by decide, by decide⟩, fun p b0 b1 hp B => ?_⟩
  walk_at "dv go"
  refine ⟨p, 5, b0, b1, 0, 0, rfl, hset_same, B, by decide, by decide, fun many c0 c2 h1 m0 m1 _ u1 => ?_⟩
  have x1 : Ext h h1 := u1.ext (Ext.new hp) hp
  walk_at "dv go"
  refine ⟨⟨by omega, by omega⟩, fun i τ' h' => ∃ o1 o2 o3 o4 o5 : Option D, τ' = [some (scr ns), o1, o2, o3, o4, o5] ∧ Ext h h', ⟨none, none, none, none, none, rfl, x1⟩, ?_, ?_⟩
  · rintro i τ1 h1 hi ⟨o1, o2, o3, o4, o5, rfl, x1⟩
    have hi7 : i < 7 := by omega
    walk_at "dv go"
    refine ⟨ns, 1 + 8 * i, rfl, ⟨by omega, by omega⟩, fun n d bn bd => ?_⟩
    dsimp only [fr]
    have bn4 : Bd 4000 n := bn.mono (by decide)
    have bd4 : Bd 4000 d := bd.mono (by decide)
    have b0 : Bd 4000 0 := by unfold Bd; decide +kernel
    have b1 : Bd 4000 1 := by unfold Bd; decide +kernel
    walk_at "dv go"
    refine ⟨n, d, rfl, bn4, bd4, ?_⟩
    walk_at "dv go"
    refine ⟨n, 0, rfl, bn4, b0, ?_⟩
    walk_at "dv go"
    refine ⟨n, 1, rfl, b1, fun e => absurd e (by decide), fun _ => ?_⟩
    rw [show frac n 1 = (n, 1) from rfl]
    walk_at "dv go"
    refine ⟨(n, 1), n, 1, rfl, bn4, b1, bn4, b1, ⟨Int.le_refl 1, Nat.gcd_one_right _, rfl⟩, ?_⟩
    walk_at "dv go"
    refine ⟨ns, 1 + 8 * i + 3, rfl, ⟨by omega, by omega⟩, fun p fp p1 p2 => ?_⟩
    walk_at "dv go"
    refine ⟨ns, 1 + 8 * i + 5, p, rfl, ⟨by omega, by omega⟩, fp, p1, p2, fun q fq => ?_⟩
    walk_at "dv go"
    refine ⟨p, q, rfl, fp, fq, ?_⟩
    walk_at "dv go"
    refine ⟨p, q, rfl, fp.fb, fq.fb, ?_⟩
    walk_at "dv go"
    refine ⟨p, p, rfl, fp.fb, fp.fb, ?_⟩
    walk_at "dv go"
    exact ⟨_, _, _, _, _, rfl, x1⟩
  · rintro τ1 h1 ⟨o1, o2, o3, o4, o5, rfl, x1⟩
    walk_at "dv go"
    exact ⟨_, x1, z⟩
end
def d_fraction : He.DefD := ⟨("fraction", none), "fraction", "fraction", defArgs s_fraction, defBody s_fraction, defScope s_fraction, [.int 1], []⟩
def d_frac_sum : He.DefD := ⟨("frac_sum", none), "frac_sum", "frac_sum", defArgs s_frac_sum, defBody s_frac_sum, defScope s_frac_sum, [], []⟩
def d_frac_difference : He.DefD := ⟨("frac_difference", none), "frac_difference", "frac_difference", defArgs s_frac_difference, defBody s_frac_difference, defScope s_frac_difference, [], []⟩
def d_frac_product : He.DefD := ⟨("frac_product", none), "frac_product", "frac_product", defArgs s_frac_product, defBody s_frac_product, defScope s_frac_product, [], []⟩
def d_frac_quotient : He.DefD := ⟨("frac_quotient", none), "frac_quotient", "frac_quotient", defArgs s_frac_quotient, defBody s_frac_quotient, defScope s_frac_quotient, [], []⟩
def d_compare : He.DefD := ⟨("compare", none), "compare", "compare", defArgs s_compare, defBody s_compare, defScope s_compare, [], []⟩
def d_law_box : He.DefD := ⟨("_law_box", none), "_law_box", "_law_box", defArgs s_law_box, defBody s_law_box, defScope s_law_box, [], []⟩
def d_law_take : He.DefD := ⟨("_law_take", none), "_law_take", "_law_take", defArgs s_law_take, defBody s_law_take, defScope s_law_take, [], []⟩
def d_law_long : He.DefD := ⟨("_law_long", none), "_law_long", "_law_long", defArgs s_law_long, defBody s_law_long, defScope s_law_long, [], []⟩
def d_law_number : He.DefD := ⟨("_law_number", none), "_law_number", "_law_number", defArgs s_law_number, defBody s_law_number, defScope s_law_number, [], []⟩
def d_law_gcd : He.DefD := ⟨("_law_gcd", none), "_law_gcd", "_law_gcd", defArgs s_law_gcd, defBody s_law_gcd, defScope s_law_gcd, [], []⟩
def d_law_lowest : He.DefD := ⟨("_law_lowest", none), "_law_lowest", "_law_lowest", defArgs s_law_lowest, defBody s_law_lowest, defScope s_law_lowest, [], []⟩
def d_law_is_integer : He.DefD := ⟨("_law_is_integer", none), "_law_is_integer", "_law_is_integer", defArgs s_law_is_integer, defBody s_law_is_integer, defScope s_law_is_integer, [], []⟩
def d_law_is : He.DefD := ⟨("_law_is", none), "_law_is", "_law_is", defArgs s_law_is, defBody s_law_is, defScope s_law_is, [], []⟩
def d_law_drawn : He.DefD := ⟨("_law_drawn", none), "_law_drawn", "_law_drawn", defArgs s_law_drawn, defBody s_law_drawn, defScope s_law_drawn, [], []⟩
def d_law_second : He.DefD := ⟨("_law_second", none), "_law_second", "_law_second", defArgs s_law_second, defBody s_law_second, defScope s_law_second, [], []⟩
def d_law_divided : He.DefD := ⟨("_law_divided", none), "_law_divided", "_law_divided", defArgs s_law_divided, defBody s_law_divided, defScope s_law_divided, [], []⟩
def d_law_quotient : He.DefD := ⟨("_law_quotient", none), "_law_quotient", "_law_quotient", defArgs s_law_quotient, defBody s_law_quotient, defScope s_law_quotient, [], []⟩
def d_law_compared : He.DefD := ⟨("_law_compared", none), "_law_compared", "_law_compared", defArgs s_law_compared, defBody s_law_compared, defScope s_law_compared, [], []⟩
def d_law_numbers : He.DefD := ⟨("_law_numbers", none), "_law_numbers", "_law_numbers", defArgs s_law_numbers, defBody s_law_numbers, defScope s_law_numbers, [], []⟩
def d_law_operations : He.DefD := ⟨("_law_operations", none), "_law_operations", "_law_operations", defArgs s_law_operations, defBody s_law_operations, defScope s_law_operations, [], []⟩
def d_law_by_hand : He.DefD := ⟨("_law_by_hand", none), "_law_by_hand", "_law_by_hand", defArgs s_law_by_hand, defBody s_law_by_hand, defScope s_law_by_hand, [], []⟩
def d_law : He.DefD := ⟨("law", none), "law", "law", defArgs s_law, defBody s_law, defScope s_law, [], []⟩
def fns : List He.DefD := [d_fraction, d_frac_sum, d_frac_difference, d_frac_product, d_frac_quotient, d_compare, d_law_box, d_law_take, d_law_long, d_law_number, d_law_gcd, d_law_lowest, d_law_is_integer, d_law_is, d_law_drawn, d_law_second, d_law_divided, d_law_quotient, d_law_compared, d_law_numbers, d_law_operations, d_law_by_hand, d_law]
def fxs : List Fx := [.bl, .glo "fraction", .glo "frac_sum", .glo "frac_difference", .glo "frac_product", .glo "frac_quotient", .glo "compare", .glo "_law_box", .glo "_law_take", .glo "_law_long", .glo "_law_number", .glo "_law_gcd", .glo "_law_lowest", .glo "_law_is_integer", .glo "_law_is", .glo "_law_drawn", .glo "_law_second", .glo "_law_divided", .glo "_law_quotient", .glo "_law_compared", .glo "_law_numbers", .glo "_law_operations", .glo "_law_by_hand", .glo "law", .blt "gcd" "math.gcd", .err "ZeroDivisor", .exc "ZeroDivisor", .glo "ZeroPolynomial", .glo "RowError", .exm "ZeroDivisor" "RowError" true, .kit "ZeroDivisor" "ZeroDivisor" true, .kitT "ZeroDivisor" "ValueError" true, .kit "ZeroDivisor" "ZeroPolynomial" false]
abbrev R : PySem.W.OpenRow := PySem.W.OpenLaw.row PySem.Challenge.rw_rowtower_k00_fractions_in_lowest_form
abbrev hk : PySem.W.Hook := hookX 4 fxs fns
def ob (s : PySem.W.SharedT) : He.AlD := obsXG 4 fxs fns (HandSHeadRun.getT s)
theorem ob_eq (s : PySem.W.SharedT) : ob s = hk.obs s.abs := obsXG_eq (HandSHeadRun.getT_eq s)
def loose : List PySem.Str := ["RowError", "ZeroDivisor", "ZeroPolynomial", "fraction", "frac_sum", "frac_difference", "frac_product", "frac_quotient", "compare", "_law_box", "_law_take", "_law_long", "_law_number", "_law_gcd", "_law_lowest", "_law_is_integer", "_law_is", "_law_drawn", "_law_second", "_law_divided", "_law_quotient", "_law_compared", "_law_numbers", "_law_operations", "_law_by_hand"]
abbrev qv : Program := PySem.W.view R.prog [0, 29]
theorem run (w : World) : HandSHeadRun.RunEqI R qv hk ob 20000 loose w := by
  unfold HandSHeadRun.RunEqI
  kernel_rfl
-- LAWAT 29
theorem sw_vals {vs : List V} {us : List Value} {zs : List V} {ws : List Value} (_ : Vals vs us) (r : Vals zs ws) : Vals (sw vs zs) (sw us ws) := by
  cases r with
  | nil => exact .nil
  | cons a r => cases r with
    | nil => exact .nil
    | cons b r => cases r with
      | nil => exact .cons b (.cons a .nil)
      | cons c r => exact .nil
theorem sw_dn {K : PySem.W.Frag} {H : Hp} {vs : List V} {ds : List D} {zs : List V} {es : List D} (r : DnA K H zs es) : DnA K H (sw vs zs) (sw ds es) := by
  cases r with
  | nil => exact .nil
  | cons a r => cases r with
    | nil => exact .nil
    | cons b r => cases r with
      | nil => exact .cons b (.cons a .nil)
      | cons c r => exact .nil
theorem facts {P : Program} {w : World} {K : PySem.W.Frag} {h : Heap} {mg : Str → Option Value} {f : Addr} (X : K.In h) (G : h.Ns mainGlobals mg) (hfa : mg ("law" : Str) = some (.ref f)) (c : SaysX fxs fns K) :
    ∃ fd : FuncData, (∀ (s : Shared) (v : Value), BindsTo s fd ⟨[v], []⟩ [("script", v)]) ∧ ∀ base : Heap, FnOk P w K mg base (L2.CX P w) 6 f fd ["script"] (spOf K spLaw) := by
  obtain ⟨fd0, F0⟩ := c.def_ 0 (d := d_fraction) rfl
  have m0 := fx_glo X G (c.fact 1 (f := .glo "fraction") rfl)
  obtain ⟨fd1, F1⟩ := c.def_ 1 (d := d_frac_sum) rfl
  have m1 := fx_glo X G (c.fact 2 (f := .glo "frac_sum") rfl)
  obtain ⟨fd2, F2⟩ := c.def_ 2 (d := d_frac_difference) rfl
  have m2 := fx_glo X G (c.fact 3 (f := .glo "frac_difference") rfl)
  obtain ⟨fd3, F3⟩ := c.def_ 3 (d := d_frac_product) rfl
  have m3 := fx_glo X G (c.fact 4 (f := .glo "frac_product") rfl)
  obtain ⟨fd4, F4⟩ := c.def_ 4 (d := d_frac_quotient) rfl
  have m4 := fx_glo X G (c.fact 5 (f := .glo "frac_quotient") rfl)
  obtain ⟨fd5, F5⟩ := c.def_ 5 (d := d_compare) rfl
  have m5 := fx_glo X G (c.fact 6 (f := .glo "compare") rfl)
  obtain ⟨fd6, F6⟩ := c.def_ 6 (d := d_law_box) rfl
  have m6 := fx_glo X G (c.fact 7 (f := .glo "_law_box") rfl)
  obtain ⟨fd7, F7⟩ := c.def_ 7 (d := d_law_take) rfl
  have m7 := fx_glo X G (c.fact 8 (f := .glo "_law_take") rfl)
  obtain ⟨fd8, F8⟩ := c.def_ 8 (d := d_law_long) rfl
  have m8 := fx_glo X G (c.fact 9 (f := .glo "_law_long") rfl)
  obtain ⟨fd9, F9⟩ := c.def_ 9 (d := d_law_number) rfl
  have m9 := fx_glo X G (c.fact 10 (f := .glo "_law_number") rfl)
  obtain ⟨fd10, F10⟩ := c.def_ 10 (d := d_law_gcd) rfl
  have m10 := fx_glo X G (c.fact 11 (f := .glo "_law_gcd") rfl)
  obtain ⟨fd11, F11⟩ := c.def_ 11 (d := d_law_lowest) rfl
  have m11 := fx_glo X G (c.fact 12 (f := .glo "_law_lowest") rfl)
  obtain ⟨fd12, F12⟩ := c.def_ 12 (d := d_law_is_integer) rfl
  have m12 := fx_glo X G (c.fact 13 (f := .glo "_law_is_integer") rfl)
  obtain ⟨fd13, F13⟩ := c.def_ 13 (d := d_law_is) rfl
  have m13 := fx_glo X G (c.fact 14 (f := .glo "_law_is") rfl)
  obtain ⟨fd14, F14⟩ := c.def_ 14 (d := d_law_drawn) rfl
  have m14 := fx_glo X G (c.fact 15 (f := .glo "_law_drawn") rfl)
  obtain ⟨fd15, F15⟩ := c.def_ 15 (d := d_law_second) rfl
  have m15 := fx_glo X G (c.fact 16 (f := .glo "_law_second") rfl)
  obtain ⟨fd16, F16⟩ := c.def_ 16 (d := d_law_divided) rfl
  have m16 := fx_glo X G (c.fact 17 (f := .glo "_law_divided") rfl)
  obtain ⟨fd17, F17⟩ := c.def_ 17 (d := d_law_quotient) rfl
  have m17 := fx_glo X G (c.fact 18 (f := .glo "_law_quotient") rfl)
  obtain ⟨fd18, F18⟩ := c.def_ 18 (d := d_law_compared) rfl
  have m18 := fx_glo X G (c.fact 19 (f := .glo "_law_compared") rfl)
  obtain ⟨fd19, F19⟩ := c.def_ 19 (d := d_law_numbers) rfl
  have m19 := fx_glo X G (c.fact 20 (f := .glo "_law_numbers") rfl)
  obtain ⟨fd20, F20⟩ := c.def_ 20 (d := d_law_operations) rfl
  have m20 := fx_glo X G (c.fact 21 (f := .glo "_law_operations") rfl)
  obtain ⟨fd21, F21⟩ := c.def_ 21 (d := d_law_by_hand) rfl
  have m21 := fx_glo X G (c.fact 22 (f := .glo "_law_by_hand") rfl)
  obtain ⟨fd22, F22⟩ := c.def_ 22 (d := d_law) rfl
  have m22 := fx_glo X G (c.fact 23 (f := .glo "law") rfl)

  have bl := fx_bl X G (c.fact 0 (f := .bl) rfl)
  have eg := fx_blt X G (c.fact 24 (f := .blt "gcd" "math.gcd") rfl)
  have ez := fx_err X G (c.fact 25 (f := .err "ZeroDivisor") rfl)
  have ec := fx_exc (c.fact 26 (f := .exc "ZeroDivisor") rfl)
  have ep := fx_glo X G (c.fact 27 (f := .glo "ZeroPolynomial") rfl)
  have er := fx_glo X G (c.fact 28 (f := .glo "RowError") rfl)
  have ex := fx_exm (c.fact 29 (f := .exm "ZeroDivisor" "RowError" true) rfl)
  have k1 := fx_kit (c.fact 30 (f := .kit "ZeroDivisor" "ZeroDivisor" true) rfl)
  have k2 := fx_kitT (c.fact 31 (f := .kitT "ZeroDivisor" "ValueError" true) rfl)
  have k3 := fx_kit (c.fact 32 (f := .kit "ZeroDivisor" "ZeroPolynomial" false) rfl)
  have e := hfa.symm.trans m22
  cases e
  have b := FunD.bindsA (ps := ["script"]) F22 fun _ _ _ _ _ _ us hl => match us, hl with | [_], _ => rfl
  refine ⟨fd22, fun s v => b s [v] rfl, fun base => ?_⟩
  have t0 : T0 (He.ga K "ZeroDivisor") mg K := ⟨eg, ez⟩
  have te : TE (He.ga K "ZeroDivisor") (He.ga K "ZeroPolynomial") (He.ga K "RowError") mg K := ⟨ez.gC, ep, er, ex, ec, k1, k2, k3⟩
  have o0 : FnOk P w K mg base (L2.CX P w) 1 _ fd0 ["n", "d"] (spOf K (spFraction (He.ga K "ZeroDivisor"))) := ok_fraction F0 bl t0
  have g0 : FnG P w K mg base "fraction" [] 1 (spFraction (He.ga K "ZeroDivisor")) := by
    refine FnG.dfl F0 m0 o0 2 1 [] (List.cons_ne_nil _ _) rfl (fun T kV doc pm an cdv ct us its hl hi => ?_) fun H => .nil
    match us, hl, its, hi with
    | [_, _], _, [_], _ => exact ⟨_, rfl, rfl⟩
  have g0' : FnG P w K mg base "fraction" [.int 1] 1 (spFraction (He.ga K "ZeroDivisor")) := by
    refine FnG.dfl F0 m0 o0 1 0 [.int 1] (List.cons_ne_nil _ _) rfl (fun T kV doc pm an cdv ct us its hl hi => ?_) fun H => .cons (.int 1) .nil
    match us, hl, its, hi with
    | [_], _, [_], _ => exact ⟨_, rfl, rfl⟩
  have g0k : FnK P w K mg base "fraction" 0 ["d", "n"] sw 1 (spFraction (He.ga K "ZeroDivisor")) := by
    refine FnK.all F0 m0 o0 (List.cons_ne_nil _ _) (fun T kV doc pm an cdv ct us ws its hl hw hi => ?_) (fun a b => sw_vals a b) fun H vs ds zs es a b => sw_dn b
    match us, hl, ws, hw, its, hi with
    | [], _, [_, _], _, [_], _ => exact ⟨_, rfl, rfl⟩
  have o1 := ok_frac_sum (w := w) (base := base) F1 bl g0
  have g1 : FnG P w K mg base "frac_sum" [] 2 spSum := FnG.all F1 m1 o1 (by walk_at "dv bind")
  have o2 := ok_frac_difference (w := w) (base := base) F2 bl g1
  have g2 : FnG P w K mg base "frac_difference" [] 3 spDiff := FnG.all F2 m2 o2 (by walk_at "dv bind")
  have g2k : FnK P w K mg base "frac_difference" 0 ["y", "x"] sw 3 spDiff := by
    refine FnK.none F2 m2 o2 (fun kV doc pm an cdv ct us ws hl hw => ?_) (fun a b => sw_vals a b) fun H vs ds zs es a b => sw_dn b
    match us, hl, ws, hw with
    | [], _, [_, _], _ => rfl
  have g3 : FnG P w K mg base "frac_product" [] 2 spProd := FnG.all F3 m3 (ok_frac_product F3 bl g0) (by walk_at "dv bind")
  have g4 : FnG P w K mg base "frac_quotient" [] 2 (spQuot (He.ga K "ZeroDivisor")) := FnG.all F4 m4 (ok_frac_quotient F4 bl ⟨t0, g0⟩) (by walk_at "dv bind")
  have g5 : FnG P w K mg base "compare" [] 1 spCmp := FnG.all F5 m5 (ok_compare F5 bl) (by walk_at "dv bind")
  have g6 : FnG P w K mg base "_law_box" [] 1 spBox := FnG.all F6 m6 (ok_law_box F6 bl) (by walk_at "dv bind")
  have g7 : FnG P w K mg base "_law_take" [] 1 spTake := FnG.all F7 m7 (ok_law_take F7 bl) (by walk_at "dv bind")
  have g8 : FnG P w K mg base "_law_long" [] 2 spLong := FnG.all F8 m8 (ok_law_long F8 bl g7) (by walk_at "dv bind")
  have g9 : FnG P w K mg base "_law_number" [] 3 spNumber := FnG.all F9 m9 (ok_law_number F9 bl ⟨g7, g8⟩) (by walk_at "dv bind")
  have g10 : FnG P w K mg base "_law_gcd" [] 1 spGcd := FnG.all F10 m10 (ok_law_gcd F10 bl) (by walk_at "dv bind")
  have g11 : FnG P w K mg base "_law_lowest" [] 2 spLowest := FnG.all F11 m11 (ok_law_lowest F11 bl g10) (by walk_at "dv bind")
  have g12 : FnG P w K mg base "_law_is_integer" [] 1 spIsInt := FnG.all F12 m12 (ok_law_is_integer F12 bl) (by walk_at "dv bind")
  have g13 : FnG P w K mg base "_law_is" [] 2 spIs := FnG.all F13 m13 (ok_law_is F13 bl ⟨g10, g12⟩) (by walk_at "dv bind")
  have tb : TB P w K mg base := ⟨g6, g7, g8, g9, g11⟩
  have g14 : FnG P w K mg base "_law_drawn" [] 4 spDrawn := FnG.all F14 m14 (ok_law_drawn F14 bl tb) (by walk_at "dv bind")
  have g15 : FnG P w K mg base "_law_second" [] 5 spSecond := FnG.all F15 m15 (ok_law_second F15 bl ⟨tb, g14⟩) (by walk_at "dv bind")
  have g16 : FnG P w K mg base "_law_divided" [] 3 spDivided := FnG.all F16 m16 (ok_law_divided F16 bl ⟨te, g0, g13⟩) (by walk_at "dv bind")
  have g17 : FnG P w K mg base "_law_quotient" [] 3 spQuotient := FnG.all F17 m17 (ok_law_quotient F17 bl ⟨te, g4, g13⟩) (by walk_at "dv bind")
  have g18 : FnG P w K mg base "_law_compared" [] 2 spCompared := FnG.all F18 m18 (ok_law_compared F18 bl ⟨g5, g12⟩) (by walk_at "dv bind")
  have g19 : FnG P w K mg base "_law_numbers" [] 4 spNumbers := FnG.all F19 m19 (ok_law_numbers F19 bl tb) (by walk_at "dv bind")
  have g20 : FnG P w K mg base "_law_operations" [] 4 spOperations := FnG.all F20 m20 (ok_law_operations F20 bl ⟨g1, g2, g3, g13, g17⟩) (by walk_at "dv bind")
  have g21 : FnG P w K mg base "_law_by_hand" [] 4 spByHand := FnG.all F21 m21 (ok_law_by_hand F21 bl ⟨g0, ⟨g0'⟩, g0k, g2k, g13, g16, g17⟩) (by walk_at "dv bind")
  exact ok_law F22 bl (⟨g0', g21, g6, g7, g13, g16, g19, g14, g15, g20, g18⟩ : TL (He.ga K "ZeroDivisor") P w K mg base)
end K0
open PySem PySem.W PySem.Calls PyProof.Rows
theorem PySem.Challenge.cw_rowtower_k00_fractions_in_lowest_form_holds : PySem.Challenge.rw_rowtower_k00_fractions_in_lowest_form.Holds := by
  w_on; o_law
  refine HandSHeadRun.head_imp (r := OpenLaw.row PySem.Challenge.rw_rowtower_k00_fractions_in_lowest_form) (q := K0.qv) (H := K0.hk) (ob := K0.ob) (M := 20000) (loose := K0.loose) (d := HandSHeadRun.topDef (OpenLaw.row PySem.Challenge.rw_rowtower_k00_fractions_in_lowest_form).prog 29) (kwd := []) K0.ob_eq K0.run
    (by kernel_rfl) (by kernel_rfl) (by kernel_rfl) (by rfl) (by first | assumption | decide +kernel) (by decide +kernel) ⟨rfl, rfl, rfl, rfl, rfl, by decide +kernel⟩ ?hw ?hc
  case hw => w_witness2
  case hc =>
    refine Dv.walk_law (l := PySem.Challenge.rw_rowtower_k00_fractions_in_lowest_form) (n := 63) (k := 6) (x := "script") (sp := K0.spLaw) rfl (by decide) (by kernel_rfl) ⟨rfl, by decide, by decide⟩ (fun w mg fa h K X G hm c => K0.facts X G ?m c) fun ns h _ _ => ⟨ns, rfl, rfl⟩
    case m =>
      have e : (HandSHeadRun.topDef (OpenLaw.row PySem.Challenge.rw_rowtower_k00_fractions_in_lowest_form).prog 29).name = ("law" : PySem.Str) := by kernel_rfl
      rw [← e]
      exact hm
