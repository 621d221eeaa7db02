import PyProof.Rows.All
import Wide.All
import OpenK.AllK
import Wide.FinOn
import PySem.Challenge.RW_stickyservers_k50_fair_lists
import HandS.ForMost
import HandS.ForExc
import HandS.ExcInit
import HandS.ExcField
import HandS.CallSlots
import HandS.IsInst
import HandS.Deep
import HandS.TupAny
import HandS.TupMul
import HandS.SortInts
import HandS.SetFor
import HandS.Strs
import KE.GoesEnum
import KE.GoesMore
import HandS.Defaults
import HandS.DictComp
import HandS.Conv
import HandS.Words
import HandS.Ends
set_option Elab.async false
set_option linter.all false
set_option maxRecDepth 100000
set_option maxHeartbeats 4000000
/-! Fx: data by structure over the hand layer; an expression's meaning is a function from cells to an outcome. -/
namespace Fx
open PySem L2

/-! ### data -/
inductive D where
  | non | bl (b : Bool) | int (i : Int) | str (x : Str)
  | tup (ds : List D) | lst (ds : List D) | dic (ks : List Key) (ds : List D)
  | rcd (ns : List Str) (ds : List D) | exc (c : Nat) (fs : List D) | raw (v : V)

/-- what the laws' programs have beside the module's own text: the class of farms, the classes of errors with their fields (last stored first) -/
structure Cf where
  K : PySem.W.Frag
  farm : Addr
  exc : Nat → Addr
  flds : Nat → List Str


/-- a list of the written part, its object known -/
def KL (K : PySem.W.Frag) (a : Addr) (xs : List V) : Prop := ∃ (its : List Value) (n : Nat), K.lookup a = some { cls := .type "list", data := .seq its.toArray n } ∧ its.length ≤ sizeLine ∧ Vals xs its
/-- a list that may be read -/
def LsG (K : PySem.W.Frag) (G : Hp) (a : Addr) (xs : List V) : Prop := Rd G a (.lst xs) ∨ KL K a xs
theorem LsG.sq {K : PySem.W.Frag} {G : Hp} {a : Addr} {xs : List V} (h : LsG K G a xs) : SqL K G a xs := by
  rcases h with h | ⟨its, n, h1, h2, h3⟩
  · exact .inl h
  · exact .inr ⟨_, its.toArray, n, h1, rfl, rfl, rfl, by rw [List.size_toArray]; exact h2, by simpa using h3⟩
theorem LsG.mono {K : PySem.W.Frag} {G G' : Hp} {a : Addr} {xs : List V} (e : Same G G') (h : LsG K G a xs) : LsG K G' a xs := by
  rcases h with (h | ⟨o, h⟩) | h
  · exact .inl (.inl (e _ _ h))
  · exact .inl (.inr ⟨o, e _ _ h⟩)
  · exact .inr h
/-- a tuple that may be read and whose methods may be called: its object is known to have no dict -/
def TupAt (K : PySem.W.Frag) (G : Hp) (a : Addr) (xs : List V) : Prop :=
  (∃ o, G a = some (.frz o (.tup xs)) ∧ o.dict = none) ∨
    ∃ (o : Obj) (its : Array Value) (n : Nat), K.lookup a = some o ∧ o.cls = .type "tuple" ∧ o.dict = none ∧ o.data = .seq its n ∧ its.size ≤ sizeLine ∧ Vals xs its.toList
theorem TupAt.sq {K : PySem.W.Frag} {G : Hp} {a : Addr} {xs : List V} (h : TupAt K G a xs) : SqT K G a xs := by
  rcases h with ⟨o, h, _⟩ | ⟨o, its, n, h1, h2, h3, h4, h5, h6⟩
  · exact .inl (.inr ⟨o, h⟩)
  · exact .inr ⟨o, its, n, h1, h2, h4, h5, h6⟩
theorem TupAt.mono {K : PySem.W.Frag} {G G' : Hp} {a : Addr} {xs : List V} (e : Same G G') (h : TupAt K G a xs) : TupAt K G' a xs := by
  rcases h with ⟨o, h, d⟩ | h
  · exact .inl ⟨o, e _ _ h, d⟩
  · exact .inr h
section
variable (c : Cf) (G : Hp)
mutual
inductive Rep : V → D → Prop
  | non : Rep .non .non
  | bl (b : Bool) : Rep (.bl b) (.bl b)
  | int (i : Int) : Rep (.int i) (.int i)
  | str (x : Str) : Rep (.str x) (.str x)
  | tup {a : Addr} {xs : List V} {ds : List D} : TupAt c.K G a xs → RepL xs ds → Rep (.ref a) (.tup ds)
  | lst {a : Addr} {xs : List V} {ds : List D} : LsG c.K G a xs → RepL xs ds → Rep (.ref a) (.lst ds)
  | dic {a : Addr} {ks : List Key} {xs : List V} {ds : List D} : Rd G a (.dK (ks.zip xs)) → ks.length = xs.length → RepL xs ds → Rep (.ref a) (.dic ks ds)
  | rcd {a dx : Addr} {ns : List Str} {xs : List V} {ds : List D} : G a = some (.ins c.farm dx (ns.zip xs)) → ns.length = xs.length → RepL xs ds → Rep (.ref a) (.rcd ns ds)
  | raw (v : V) : Rep v (.raw v)
inductive RepL : List V → List D → Prop
  | nil : RepL [] []
  | cons {v : V} {vs : List V} {d : D} {ds : List D} : Rep v d → RepL vs ds → RepL (v :: vs) (d :: ds)
end
end
section
variable {c : Cf} {G G' H : Hp}
theorem same_seqT {K : PySem.W.Frag} {a : Addr} {xs : List V} (e : Same G G') (h : SqT K G a xs) : SqT K G' a xs := by
  rcases h with (h | ⟨o, h⟩) | h
  · exact .inl (.inl (e _ _ h))
  · exact .inl (.inr ⟨o, e _ _ h⟩)
  · exact .inr h
theorem same_rd {a : Addr} {u : HO} (e : Same G G') (h : Rd G a u) : Rd G' a u := by
  rcases h with h | ⟨o, h⟩
  · exact .inl (e _ _ h)
  · exact .inr ⟨o, e _ _ h⟩
mutual
theorem Rep.mono (e : Same G G') : ∀ {v : V} {d : D}, Rep c G v d → Rep c G' v d
  | _, _, .non => .non
  | _, _, .bl b => .bl b
  | _, _, .int i => .int i
  | _, _, .str x => .str x
  | _, _, .tup s r => .tup (s.mono e) (RepL.mono e r)
  | _, _, .lst s r => .lst (s.mono e) (RepL.mono e r)
  | _, _, .dic s l r => .dic (same_rd e s) l (RepL.mono e r)
  | _, _, .rcd s l r => .rcd (e _ _ s) l (RepL.mono e r)
  | _, _, .raw v => .raw v
theorem RepL.mono (e : Same G G') : ∀ {vs : List V} {ds : List D}, RepL c G vs ds → RepL c G' vs ds
  | _, _, .nil => .nil
  | _, _, .cons h t => .cons (Rep.mono e h) (RepL.mono e t)
end
theorem RepL.length : ∀ {vs : List V} {ds : List D}, RepL c G vs ds → vs.length = ds.length
  | _, _, .nil => rfl
  | _, _, .cons _ t => by rw [List.length_cons, List.length_cons, RepL.length t]
theorem RepL.get : ∀ {vs : List V} {ds : List D} {i : Nat} {d : D}, RepL c G vs ds → ds[i]? = some d → ∃ v, vs[i]? = some v ∧ Rep c G v d
  | _, _, _, _, .nil, e => by simp at e
  | _, _, 0, _, .cons r _, e => by simp at e; subst e; exact ⟨_, rfl, r⟩
  | _, _, i + 1, d, .cons _ t, e => by
    obtain ⟨u, h1, h2⟩ := RepL.get (i := i) (d := d) t (by simpa using e)
    exact ⟨u, by simpa using h1, h2⟩
theorem RepL.getV : ∀ {vs : List V} {ds : List D} {i : Nat} {v : V}, RepL c G vs ds → vs[i]? = some v → ∃ d, ds[i]? = some d ∧ Rep c G v d
  | _, _, _, _, .nil, e => by simp at e
  | _, _, 0, _, .cons r _, e => by simp at e; subst e; exact ⟨_, rfl, r⟩
  | _, _, i + 1, d, .cons _ t, e => by
    obtain ⟨u, h1, h2⟩ := RepL.getV (i := i) (v := d) t (by simpa using e)
    exact ⟨u, by simpa using h1, h2⟩
theorem RepL.append : ∀ {vs ws : List V} {ds es : List D}, RepL c G vs ds → RepL c G ws es → RepL c G (vs ++ ws) (ds ++ es)
  | _, _, _, _, .nil, s => s
  | _, _, _, _, .cons r t, s => .cons r (RepL.append t s)
theorem RepL.take : ∀ {vs : List V} {ds : List D} (n : Nat), RepL c G vs ds → RepL c G (vs.take n) (ds.take n)
  | _, _, 0, _ => .nil
  | _, _, _ + 1, .nil => .nil
  | _, _, n + 1, .cons r t => .cons r (RepL.take n t)
theorem RepL.drop : ∀ {vs : List V} {ds : List D} (n : Nat), RepL c G vs ds → RepL c G (vs.drop n) (ds.drop n)
  | _, _, 0, r => r
  | _, _, _ + 1, .nil => .nil
  | _, _, n + 1, .cons _ t => RepL.drop n t
theorem RepL.set {x : V} {d : D} (r : Rep c G x d) : ∀ {vs : List V} {ds : List D} (i : Nat), RepL c G vs ds → RepL c G (vs.set i x) (ds.set i d)
  | _, _, _, .nil => .nil
  | _, _, 0, .cons _ t => .cons r t
  | _, _, i + 1, .cons q t => .cons q (RepL.set r i t)
theorem RepL.eraseIdx : ∀ {vs : List V} {ds : List D} (i : Nat), RepL c G vs ds → RepL c G (vs.eraseIdx i) (ds.eraseIdx i)
  | _, _, _, .nil => .nil
  | _, _, 0, .cons _ t => t
  | _, _, i + 1, .cons q t => .cons q (RepL.eraseIdx i t)
theorem RepL.one {v : V} {d : D} (r : Rep c G v d) : RepL c G [v] [d] := .cons r .nil

/-! ### cells, outcomes -/
/-- a list (or dict) that the def may change: its content -/
def Own (c : Cf) (G : Hp) (o : Option HO) : D → Prop
  | .lst ds => ∃ xs, o = some (.lst xs) ∧ RepL c G xs ds
  | .dic ks ds => ∃ xs, o = some (.dK (ks.zip xs)) ∧ ks.length = xs.length ∧ RepL c G xs ds
  | .rcd ns ds => ∃ dx xs, o = some (.ins c.farm dx (ns.zip xs)) ∧ ns.length = xs.length ∧ RepL c G xs ds
  | _ => False
theorem Own.mono {o : Option HO} {d : D} (e : Same G G') (h : Own c G o d) : Own c G' o d := by
  cases d <;> first | exact h.elim | skip
  · obtain ⟨xs, h1, h2⟩ := h; exact ⟨xs, h1, h2.mono e⟩
  · obtain ⟨xs, h1, h3, h2⟩ := h; exact ⟨xs, h1, h3, h2.mono e⟩
  · obtain ⟨dx, xs, h1, h3, h2⟩ := h; exact ⟨dx, xs, h1, h3, h2.mono e⟩
theorem Own.some {o : Option HO} {d : D} (h : Own c G o d) : ∃ u, o = some u := by
  cases d <;> first | exact h.elim | skip
  · obtain ⟨xs, h1, _⟩ := h; exact ⟨_, h1⟩
  · obtain ⟨xs, h1, _⟩ := h; exact ⟨_, h1⟩
  · obtain ⟨dx, xs, h1, _⟩ := h; exact ⟨_, h1⟩
/-- frozen, what was owned is data -/
theorem Own.rep {a : Addr} {d : D} (h : Own c G (G' a) d) (e : Same G G') : Rep c G' (.ref a) d := by
  cases d <;> first | exact h.elim | skip
  · obtain ⟨xs, h1, h2⟩ := h; exact .lst (.inl (.inl h1)) (h2.mono e)
  · obtain ⟨xs, h1, h3, h2⟩ := h; exact .dic (.inl h1) h3 (h2.mono e)
  · obtain ⟨dx, xs, h1, h3, h2⟩ := h; exact .rcd h1 h3 (h2.mono e)

inductive Cell where
  | no | dat (d : D) | own (d : D)
abbrev Cells := List Cell
/-- an error: its class, its fields -/
structure Exc where
  c : Nat
  fs : List D
inductive Out (α : Type) where
  | stuck | ok (a : α) (ρ : Cells) | exc (x : Exc) (ρ : Cells)
abbrev M (α : Type) := Cells → Out α
def Out.andThen {α β : Type} (o : Out α) (k : α → M β) : Out β := match o with
  | .stuck => .stuck
  | .ok a ρ => k a ρ
  | .exc x ρ => .exc x ρ
def M.bind {α β : Type} (f : M α) (k : α → M β) : M β := fun ρ => (f ρ).andThen k
def M.pure {α : Type} (a : α) : M α := fun ρ => .ok a ρ
def M.stuck {α : Type} : M α := fun _ => .stuck
def M.lift {α : Type} (o : Option α) : M α := fun ρ => match o with
  | some a => .ok a ρ
  | none => .stuck
inductive OutS where
  | stuck | next (ρ : Cells) | ret (d : D) (ρ : Cells) | brk (ρ : Cells) | cont (ρ : Cells) | exc (x : Exc) (ρ : Cells)
abbrev MS := Cells → OutS

/-! ### how cells lie: G what never changes, A the addresses of what is owned, B the slots of parameters by reference -/
structure Rel (c : Cf) (B : List (Nat × Addr)) (G : Hp) (A : Addr → Prop) (H : Hp) (σ : L2.St) (ρ : Cells) : Prop where
  same : Same G H
  len : σ.length = ρ.length
  ownA : ∀ b, A b → G b = none ∧ ∃ o, H b = some o
  dat : ∀ (i : Nat) (d : D), ρ[i]? = some (.dat d) → ∃ v, σ[i]? = some (some v) ∧ Rep c G v d
  own : ∀ (i : Nat) (d : D), ρ[i]? = some (.own d) → ∃ p, σ[i]? = some (some (.ref p)) ∧ A p ∧ Own c G (H p) d
  dis : ∀ (i j : Nat) (d e : D) (p : Addr), i ≠ j → ρ[i]? = some (.own d) → ρ[j]? = some (.own e) → σ[i]? = some (some (.ref p)) → σ[j]? = some (some (.ref p)) → False
  byr : ∀ q ∈ B, σ[q.1]? = some (some (.ref q.2)) ∧ A q.2 ∧ ∃ d, ρ[q.1]? = some (.own d)
/-- the heap has grown by what is new -/
structure Ext (G H G' H' : Hp) : Prop where
  gg : Same G G'
  hh : Same H H'
  gh : Same G' H'
  new : ∀ b o, H b = some o → G' b = G b
theorem Ext.refl (h : Same G H) : Ext G H G H := ⟨Same.refl _, Same.refl _, h, fun _ _ _ => rfl⟩
theorem Ext.trans {G1 G2 H1 H2 : Hp} (a : Ext G H G1 H1) (b : Ext G1 H1 G2 H2) : Ext G H G2 H2 :=
  ⟨a.gg.trans b.gg, a.hh.trans b.hh, b.gh, fun x o h => (b.new x o (a.hh x o h)).trans (a.new x o h)⟩
theorem same_upd {p : Addr} {o : HO} (hp : H p = none) : Same H (upd H p o) := fun b u e => by
  rw [upd_ne (ne_of_none e hp)]; exact e
theorem Ext.upd {p : Addr} {o : HO} (h : Same G H) (hp : H p = none) : Ext G H (upd G p o) (upd H p o) :=
  ⟨same_upd (h.free hp), same_upd hp, fun b u e => by
    by_cases z : b = p
    · subst z; rw [upd_same] at e ⊢; exact e
    · rw [upd_ne z] at e ⊢; exact h b u e, fun b u e => upd_ne (ne_of_none e hp)⟩
theorem Ext.updH {p : Addr} {o : HO} (h : Same G H) (hp : H p = none) : Ext G H G (L2.upd H p o) :=
  ⟨Same.refl _, same_upd hp, h.trans (same_upd hp), fun b u e => rfl⟩
/-- what is not owned stands -/
def Keep (A : Addr → Prop) (G H G' H' : Hp) : Prop := ∀ b o, H b = some o → ¬ A b → H' b = some o ∧ G' b = G b
theorem Keep.refl {A : Addr → Prop} (G H : Hp) : Keep A G H G H := fun _ _ h _ => ⟨h, rfl⟩
theorem Keep.trans {A : Addr → Prop} {G1 G2 H1 H2 : Hp} (a : Keep A G H G1 H1) (b : Keep A G1 H1 G2 H2) : Keep A G H G2 H2 := fun x o h n => ⟨(b x o (a x o h n).1 n).1, (b x o (a x o h n).1 n).2.trans (a x o h n).2⟩
theorem Ext.keep {A : Addr → Prop} {H' : Hp} (e : Ext G H G' H') : Keep A G H G' H' := fun b o h _ => ⟨e.hh b o h, e.new b o h⟩
theorem Rel.ext {B : List (Nat × Addr)} {A : Addr → Prop} {H' : Hp} {σ : L2.St} {ρ : Cells} (R : Rel c B G A H σ ρ) (e : Ext G H G' H') : Rel c B G' A H' σ ρ where
  same := e.gh
  len := R.len
  ownA := fun b hb => by
    obtain ⟨h1, o, h2⟩ := R.ownA b hb
    exact ⟨(e.new b o h2).trans h1, o, e.hh b o h2⟩
  dat := fun i d h => by
    obtain ⟨v, h1, h2⟩ := R.dat i d h
    exact ⟨v, h1, h2.mono e.gg⟩
  own := fun i d h => by
    obtain ⟨p, h1, h2, h3⟩ := R.own i d h
    obtain ⟨u, hu⟩ := h3.some
    refine ⟨p, h1, h2, ?_⟩
    rw [e.hh p u hu, ← hu]
    exact h3.mono e.gg
  dis := R.dis
  byr := R.byr

/-- how an error lies: its own dict at dd -/
def ExcAt (c : Cf) (G : Hp) (x : Exc) (dd : Addr) : Prop := ∃ vs, G dd = some (.xd ((c.flds x.c).zip vs)) ∧ RepL c G vs x.fs
theorem ExcAt.mono {x : Exc} {dd : Addr} (e : Same G G') (h : ExcAt c G x dd) : ExcAt c G' x dd := by
  obtain ⟨vs, h1, h2⟩ := h
  exact ⟨vs, e _ _ h1, h2.mono e⟩

/-! ### what is wanted behind an outcome -/
def After {α : Type} (c : Cf) (B : List (Nat × Addr)) (W : WX) (G : Hp) (A : Addr → Prop) (H : Hp) (σ : L2.St) (o : Out α) (Q : α → Cells → Hp → Hp → Prop) : Prop := match o with
  | .stuck => False
  | .ok a ρ' => ∀ G' H', Same G G' → Keep A G H G' H' → Rel c B G' A H' σ ρ' → Q a ρ' G' H'
  | .exc x ρ' => ∀ G' H' dd, Same G G' → Keep A G H G' H' → Rel c B G' A H' σ ρ' → ExcAt c G' x dd → W (.ref (c.exc x.c)) (some dd) σ H'
variable {B : List (Nat × Addr)} {W : WX} {A : Addr → Prop} {σ : L2.St} {ρ : Cells}
theorem After.imp {α : Type} {o : Out α} {Q Q' : α → Cells → Hp → Hp → Prop} (h : After c B W G A H σ o Q) (k : ∀ a ρ' G' H', Same G G' → Keep A G H G' H' → Rel c B G' A H' σ ρ' → Q a ρ' G' H' → Q' a ρ' G' H') : After c B W G A H σ o Q' := by
  cases o with
  | stuck => exact h
  | ok a ρ' => exact fun G' H' s kk R => k a ρ' G' H' s kk R (h G' H' s kk R)
  | exc x ρ' => exact h
theorem After.of {α : Type} {o : Out α} {Q : α → Cells → Hp → Hp → Prop} {G' H' : Hp} (s : Same G G') (k : Keep A G H G' H') (h : After c B W G A H σ o Q) : After c B W G' A H' σ o Q := by
  cases o with
  | stuck => exact h
  | ok a ρ' => exact fun G2 H2 s2 k2 R => h G2 H2 (s.trans s2) (k.trans k2) R
  | exc x ρ' => exact fun G2 H2 dd s2 k2 R => h G2 H2 dd (s.trans s2) (k.trans k2) R
theorem After.split {α β : Type} {f : M α} {k : α → M β} {Q : β → Cells → Hp → Hp → Prop} (h : After c B W G A H σ ((f.bind k) ρ) Q) :
    After c B W G A H σ (f ρ) fun a ρ' G' H' => After c B W G' A H' σ (k a ρ') Q := by
  unfold M.bind at h
  cases e : f ρ with
  | stuck => rw [e] at h; exact h
  | ok a ρ' =>
    rw [e] at h
    exact fun G' H' s kk R => After.of s kk h
  | exc x ρ' => rw [e] at h; exact h
theorem After.ok {α : Type} {a : α} {Q : α → Cells → Hp → Hp → Prop} (h : After c B W G A H σ (.ok a ρ) Q) (R : Rel c B G A H σ ρ) : Q a ρ G H := h G H (Same.refl _) (Keep.refl _ _) R
end

/-! ### readings of expressions -/
/-- an operand: evaluated to data, or a slot that owns its content (read when the operation is done) -/
inductive Opn where
  | dat (f : M D) | own (i : Nat)
def cellD : Option Cell → Option D
  | some (.dat d) => some d
  | some (.own d) => some d
  | _ => none
def Opn.pre : Opn → M D
  | .dat f => f
  | .own i => fun ρ => match cellD ρ[i]? with
    | some _ => .ok .non ρ
    | none => .stuck
def Opn.rd : Opn → D → Cells → Option D
  | .dat _, d, _ => some d
  | .own i, _, ρ => cellD ρ[i]?
def rdM (o : Opn) (d : D) : M D := fun ρ => match o.rd d ρ with
  | some e => .ok e ρ
  | none => .stuck
/-- a value that stands for d, frozen or owned -/
def Opr (c : Cf) (G H : Hp) (v : V) (d : D) : Prop := Rep c G v d ∨ ∃ p, v = .ref p ∧ Own c G (H p) d

def tM (c : Cf) (B : List (Nat × Addr)) (W : WX) (f : M D) : TE := fun σ H Q => ∃ G A ρ, Rel c B G A H σ ρ ∧ After c B W G A H σ (f ρ) fun d _ G' H' => ∀ v, Rep c G' v d → Q v H'
def tO (c : Cf) (B : List (Nat × Addr)) (W : WX) (o : Opn) : TE := fun σ H Q => ∃ G A ρ, Rel c B G A H σ ρ ∧ After c B W G A H σ (o.pre ρ) fun d _ G' H' => ∀ v,
  (∀ G2 H2 ρ2 d2, Same G' G2 → Rel c B G2 A H2 σ ρ2 → o.rd d ρ2 = some d2 → Opr c G2 H2 v d2) → Q v H'
/-- a new list or dict, not yet frozen -/
def tF (c : Cf) (B : List (Nat × Addr)) (W : WX) (f : M D) : TE := fun σ H Q => ∃ G A ρ, Rel c B G A H σ ρ ∧ After c B W G A H σ (f ρ) fun d _ G' H' => ∀ p H2, H' p = none → Same H' H2 → Own c G' (H2 p) d → Q (.ref p) H2
def tT (c : Cf) (B : List (Nat × Addr)) (W : WX) (f : M Bool) : TT := fun σ H Q => ∃ G A ρ, Rel c B G A H σ ρ ∧ After c B W G A H σ (f ρ) fun b _ _ H' => Q b H'

theorem pe_imp {X : Cx} {e : Expr} {t t' : TE} (h : PE X e t) (k : ∀ σ H Q, t' σ H Q → t σ H Q) : PE X e t' := ⟨fun pins s σ H Q I q => h.run pins s σ H Q I (k σ H Q q)⟩
theorem pt_imp {X : Cx} {e : Expr} {t t' : TT} (h : PT X e t) (k : ∀ σ H Q, t' σ H Q → t σ H Q) : PT X e t' := ⟨fun pins s σ H Q I q => h.run pins s σ H Q I (k σ H Q q)⟩
theorem pa_imp {X : Cx} {e : List Expr} {t t' : TA} (h : PA X e t) (k : ∀ σ H Q, t' σ H Q → t σ H Q) : PA X e t' := ⟨fun pos pins s σ H Q I q => h.run pos pins s σ H Q I (k σ H Q q)⟩
theorem ps_imp {X : Cx} {e : Stmt} {t t' : TS} (h : PS X e t) (k : ∀ D σ H, t' D σ H → t D σ H) : PS X e t' := ⟨fun pins s σ H D I q => h.run pins s σ H D I (k D σ H q)⟩
theorem pss_imp {X : Cx} {e : List Stmt} {t t' : TS} (h : PSs X e t) (k : ∀ D σ H, t' D σ H → t D σ H) : PSs X e t' := ⟨fun pins s σ H D I q => h.run pins s σ H D I (k D σ H q)⟩
theorem pg_imp {X : Cx} {e : Expr} {t t' : TG} (h : PG X e t) (k : ∀ v σ H Q, t' v σ H Q → t v σ H Q) : PG X e t' := ⟨fun pins s σ H v u Q I r q => h.run pins s σ H v u Q I r (k v σ H Q q)⟩
theorem pi_imp {X : Cx} {tg e : Expr} {t t' : TI} (h : PI X tg e t) (k : ∀ σ H Q, t' σ H Q → t σ H Q) : PI X tg e t' := ⟨fun pins s σ H Q I q => h.run pins s σ H Q I (k σ H Q q)⟩

section
variable {c : Cf} {B : List (Nat × Addr)} {W : WX} {X : Cx}
theorem Opr.mono {G G' H : Hp} {v : V} {d : D} (e : Same G G') (h : Opr c G H v d) : Opr c G' H v d := by
  rcases h with h | ⟨p, h1, h2⟩
  · exact .inl (h.mono e)
  · exact .inr ⟨p, h1, h2.mono e⟩
/-- data as an operand -/
theorem po_dat {e : Expr} {f : M D} (h : PE X e (tM c B W f)) : PE X e (tO c B W (.dat f)) := pe_imp h fun σ H Q ⟨G, A, ρ, R, a⟩ =>
  ⟨G, A, ρ, R, a.imp fun d ρ' G' H' _ _ _ q v r => q v fun G2 H2 ρ2 d2 s2 _ e2 => by cases e2; exact .inl (r.mono s2)⟩
theorem Rel.cell {G H : Hp} {A : Addr → Prop} {σ : L2.St} {ρ : Cells} {i : Nat} {d : D} (R : Rel c B G A H σ ρ) (e : cellD ρ[i]? = some d) : ∃ v, σ[i]? = some (some v) ∧ Opr c G H v d := by
  cases q : ρ[i]? with
  | none => rw [q] at e; cases e
  | some cl =>
    rw [q] at e
    cases cl with
    | no => cases e
    | dat d' =>
      cases e
      obtain ⟨w, h1, h2⟩ := R.dat i _ q
      exact ⟨w, h1, .inl h2⟩
    | own d' =>
      cases e
      obtain ⟨p, h1, _, h3⟩ := R.own i _ q
      exact ⟨_, h1, .inr ⟨p, rfl, h3⟩⟩
/-- a slot that owns, as an operand -/
theorem po_own (i : Nat) {x : Str} {pos : Pos} (hN : X.N[i]? = some x := by rfl) (hv : Vis X.env.scope x := by first | exact Or.inl rfl | exact Or.inr (Or.inl rfl) | exact Or.inr (Or.inr rfl)) (hd : (x == ("__debug__" : Str)) = false := by decide)
    (hcd : (x == ("__classdict__" : Str)) = false := by decide) : PE X (.Name x pos) (tO c B W (.own i)) := pe_imp (pe_var hN hv hd hcd) fun σ H Q ⟨G, A, ρ, R, a⟩ => by
  have a' : After c B W G A H σ (match cellD ρ[i]? with | some _ => Out.ok D.non ρ | none => Out.stuck) _ := a
  cases e : cellD ρ[i]? with
  | none => rw [e] at a'; exact a'.elim
  | some d =>
    rw [e] at a'
    obtain ⟨v, hv, _⟩ := R.cell e
    refine ⟨v, hv, After.ok a' R v fun G2 H2 ρ2 d2 _ R2 e2 => ?_⟩
    obtain ⟨w, h1, h2⟩ := R2.cell (i := i) (d := d2) e2
    rw [hv] at h1; cases h1
    exact h2
end
end Fx
set_option Elab.async false
set_option linter.all false
set_option maxRecDepth 100000
set_option maxHeartbeats 4000000
/-! FxT: tuples whose object is known (their methods ask that), the rules that make them. -/
namespace Fx
open PySem PySem.Spec PyProof.Rows L2
def tob (its : List Value) : Obj := { cls := .type "tuple", data := .seq its.toArray }
section
variable {X : Cx} {pins : List (Addr × Obj)} {σ : L2.St} {H : Hp} {s : Shared}
theorem tnew {ys : List V} {its : List Value} {t' : Nat} (I : Inv X pins σ H s) (hv : Vals ys its) (hz : ys.length ≤ sizeLine) :
    Inv X pins σ (upd H s.heap.objs.size (.frz (tob its) (.tup ys))) { s with heap := s.heap.push (tob its), toks := t' } :=
  I.laid (fun _ _ q => Heap.get?_push_of_some _ q) (Nat.le_refl _) ⟨Heap.get?_push_size _ rfl, hz, its, hv, IsTup.new _ _⟩
theorem fresh (I : Inv X pins σ H s) : H s.heap.objs.size = none := I.hok.fresh (Nat.le_refl _)
end
/-- a new tuple of xs -/
def TN (H : Hp) (xs : List V) (Q : VK) : Prop := ∀ p its, H p = none → Q (.ref p) (upd H p (.frz (tob its) (.tup xs)))
section
variable {X : Cx} {e : Expr} {es : List Expr} {te : TE} {t : TA} {pos : Pos}
def tTupN (t : TA) : TE := fun σ H Q => t σ H fun xs H1 => xs.length ≤ sizeLine ∧ TN H1 xs Q
theorem pe_tupN {x1} (h : PA X es t) : PE X (.Tuple es x1 pos) (tTupN t) := by
  refine ⟨fun pins s σ H Q I hq => ?_⟩
  refine wpAny_Tuple_spliced (thn (h.run pos pins s σ H _ I hq) fun us s1 ⟨xs, H1, I1, r, z, q⟩ => ⟨by rw [← r.length]; exact z, ?_⟩)
  exact ⟨.ref s1.heap.objs.size, _, tnew (t' := s1.toks) I1 r z, rfl, q _ us (fresh I1)⟩
def rTupleOf (K : PySem.W.Frag) : List V → Hp → VK → Prop := fun xs H Q => ∃ p ys, xs = [.ref p] ∧ ((SqL K H p ys ∧ TN H ys Q) ∨ (SqT K H p ys ∧ Q (.ref p) H))
theorem call_tupleN : CallR X (.type "tuple") (rTupleOf X.K) := by
  intro pins s σ H xs us Q I r h
  obtain ⟨p, ys, rfl, h⟩ := h
  obtain ⟨u, rfl, rx⟩ := vals1 r
  cases rx
  rcases h with ⟨hq, q⟩ | ⟨hq, q⟩
  · obtain ⟨its, r', pl, hz⟩ := I.list hq
    have hlen := r'.length
    refine call_tuple_list pl.isList (fun h' kp => ?_) (by simp only [List.size_toArray] <;> omega)
    have I1 : Inv X pins σ H { s with heap := h' } := I.kept (t' := s.toks) kp
    exact ⟨.ref h'.objs.size, _, tnew (t' := s.toks) I1 r' hz, rfl, q _ its (fresh I1)⟩
  · obtain ⟨its, r', pl, hz⟩ := I.tuple hq
    exact call_tuple_same pl ⟨.ref p, H, I, rfl, q⟩
def rCatN (K : PySem.W.Frag) : R2 := fun x y H Q => ∃ a b xs ys, x = .ref a ∧ y = .ref b ∧ SqT K H a xs ∧ SqT K H b ys ∧ xs.length + ys.length ≤ sizeLine ∧
  (xs = [] → Q (.ref b) H) ∧ (xs ≠ [] → ys = [] → Q (.ref a) H) ∧ (xs ≠ [] → ys ≠ [] → TN H (xs ++ ys) Q)
theorem op_catN : OpR X (binaryOp .Add) (rCatN X.K) := by
  intro pins s σ H x y v u Q I rx ry h
  obtain ⟨a, b, xs, ys, rfl, rfl, ha, hb, hz, q0, q1, q2⟩ := h
  cases rx
  cases ry
  obtain ⟨its, r1, p1, _⟩ := I.tuple ha
  obtain ⟨its2, r2, p2, _⟩ := I.tuple hb
  by_cases hx : xs = []
  · subst hx
    cases r1
    exact cat_tup0 p1 p2 ⟨.ref b, H, I, rfl, q0 rfl⟩
  · refine HT.cat_tup p1 p2 (fun z => hx (r1.nil_iff.mp z)) (fun z => ⟨.ref a, H, I, rfl, q1 hx (r2.nil_iff.mp z)⟩) (fun z => ?_) (by rw [← r1.length, ← r2.length]; exact hz)
    have I2 := tnew (t' := s.toks) I (r1.append r2) (by rw [List.length_append]; exact hz)
    exact ⟨.ref s.heap.objs.size, _, I2, rfl, q2 hx (fun w => z (r2.nil_iff.mpr w)) _ _ (fresh I)⟩
def rSlN (K : PySem.W.Frag) : V → Option Int → Option Int → Hp → VK → Prop := fun x lo hi H Q => ∃ a xs, x = .ref a ∧ SqT K H a xs ∧
  (HT.sIx xs.length 0 lo = 0 ∧ HT.sIx xs.length xs.length hi = xs.length → Q (.ref a) H) ∧ (¬ (HT.sIx xs.length 0 lo = 0 ∧ HT.sIx xs.length xs.length hi = xs.length) → TN H (cutV xs lo hi) Q)
theorem sl_tupN : SlR X (rSlN X.K) := by
  intro pins s σ H x v vl vu lo hi sl Q I rx hs pl pu h
  obtain ⟨a, xs, rfl, hx, q1, q2⟩ := h
  cases rx
  obtain ⟨its, r, ht, hz⟩ := I.tuple hx
  have hlen : its.toArray.size = xs.length := by rw [List.size_toArray]; exact r.length.symm
  refine ⟨"tuple", _, PyProof.Rows.slot_tuple_getitem.lookup, ht.typeIs, ?_⟩
  by_cases hw : HT.sIx xs.length 0 lo = 0 ∧ HT.sIx xs.length xs.length hi = xs.length
  · exact getItem_tuple_whole ht hs pl pu (by rw [hlen]; exact hw) ⟨.ref a, H, I, rfl, q1 hw⟩
  · refine HT.getItem_tuple_cut ht hs pl pu (by rw [hlen]; exact hw) ?_ (by rw [hlen]; exact hz)
    rw [hlen]
    have I2 := tnew (t' := s.toks) I ((r.drop (HT.sIx xs.length 0 lo)).take (HT.sIx xs.length xs.length hi - HT.sIx xs.length 0 lo)) (Nat.le_trans (cutV_length xs lo hi) hz)
    exact ⟨.ref s.heap.objs.size, _, I2, rfl, q2 hw _ _ (fresh I)⟩
theorem LsG.ok {pins : List (Addr × Obj)} {σ : L2.St} {H : Hp} {s : Shared} {a : Addr} {xs : List V} (I : Inv X pins σ H s) (h : Fx.LsG X.K H a xs) : xs.length ≤ sizeLine ∧ ∃ (its : List Value) (n : Nat), Vals xs its ∧ s.heap.get? a = some { cls := .type "list", data := .seq its.toArray n } := by
  rcases h with h | ⟨its, n, h1, h2, h3⟩
  · obtain ⟨z, its, n, r, e⟩ := h.ok I.hok
    exact ⟨z, its, n, r, e⟩
  · exact ⟨by rw [h3.length]; exact h2, its, n, h3, I.kIn _ _ h1⟩
/-- list + list, each tracked or frozen -/
def rCatR (K : PySem.W.Frag) : R2 := fun x y H Q => ∃ l b xs zs, x = .ref l ∧ y = .ref b ∧ LsG K H l xs ∧ LsG K H b zs ∧ xs.length + zs.length ≤ sizeLine ∧ ∀ p, H p = none → Q (.ref p) (upd H p (.lst (xs ++ zs)))
theorem op_catR : OpR X (binaryOp .Add) (rCatR X.K) := by
  intro pins s σ H x y v u Q I rx ry h
  obtain ⟨l, b, xs, zs, rfl, rfl, hH, hB, hz, q⟩ := h
  cases rx
  cases ry
  obtain ⟨z, its, n, r, e⟩ := LsG.ok I hH
  obtain ⟨z2, its2, n2, r2, e2⟩ := LsG.ok I hB
  have hl := r.length
  have hl2 := r2.length
  refine PySem.P.add_list e e2 ?_ (by rw [List.size_toArray, List.size_toArray]; omega)
  have ea : its.toArray ++ its2.toArray = (its ++ its2).toArray := by simp
  rw [ea]
  exact ⟨.ref _, _, I.lnew (t' := s.toks) (r.append r2) (by rw [List.length_append]; omega), rfl, q _ I.fresh⟩
/-- list * int, tracked or frozen -/
def rRepR (K : PySem.W.Frag) : R2 := fun x y H Q => ∃ l k xs, x = .ref l ∧ y = .int k ∧ LsG K H l xs ∧ -(2 ^ 63) ≤ k ∧ k < 2 ^ 63 ∧ xs.length * k.toNat ≤ sizeLine ∧
  ∀ p, H p = none → Q (.ref p) (upd H p (.lst (List.replicate k.toNat xs).flatten))
theorem op_repR : OpR X (binaryOp .Mult) (rRepR X.K) := by
  intro pins s σ H x y v u Q I rx ry h
  obtain ⟨l, k, xs, rfl, rfl, hH, h1, h2, hz, q⟩ := h
  cases rx
  obtain ⟨t, rfl⟩ := ry
  obtain ⟨z, its, n, r, e⟩ := LsG.ok I hH
  have hl := r.length
  have hlen : its.toArray.size * k.toNat ≤ sizeLine := by rw [List.size_toArray, ← hl]; exact hz
  have hcap : ¬ its.toArray.size * k.toNat > (2 ^ 63 - 1) / 8 := by
    have : (sizeLine : Nat) ≤ (2 ^ 63 - 1) / 8 := by decide
    omega
  have hfit : ¬ (!Builtin.List.listFitsIndex k) = true := by
    rw [fitsIndex_both h1 h2]
    exact Bool.false_ne_true
  have hlong : ¬ Builtin.List.listTooLong (its.toArray.size * k.toNat) = true := by
    rw [notLongL hlen]
    exact Bool.false_ne_true
  have hnew : List.foldl (fun x1 x2 => x1 ++ x2) #[] (List.replicate (if its.toArray.isEmpty = true then 0 else k.toNat) its.toArray) = (List.replicate k.toNat its).flatten.toArray := by
    have f0 : ∀ m : Nat, List.foldl (fun x1 x2 => x1 ++ x2) #[] (List.replicate m its.toArray) = (List.replicate m its).flatten.toArray := fun m => by
      have := foldl_rep its m []
      rw [List.nil_append] at this
      exact this
    rw [f0]
    cases its with
    | nil => simp
    | cons a r' => rw [if_neg (by simp)]
  refine wpAny_binaryOp_repeat_ref (T := "list") (U := "int") (by decide) ⟨_, e, rfl⟩ (fun s' => typeIs_int s' k t) noFill_list_mul PySem.F.fills_int_mul PySem.F.slot_int_rmul repeat_list PySem.F.slot_int_index.lookup
    (call_meets PySem.F.slot_int_rmul (typeIs_int s k t) PySem.F.entry_int_rmul (PySem.F.args_int_rmul_2 _ _) (int___rmul___int_list k t l its.toArray n)
      ⟨e, rfl, ⟨_, e, rfl⟩, call_meets PySem.F.slot_list_mul ⟨_, e, rfl⟩ PySem.F.entry_list_mul (PySem.F.args_list_mul_2 _ _) (AutoListH.list___mul___list_int_3 l its.toArray n k t hfit hcap hlong) ⟨e, ?_⟩⟩)
  rw [hnew]
  exact ⟨.ref _, _, I.lnew (t' := s.toks) (r.rep k.toNat) (by rw [PyProof.Rows.lm_len_rep_flat, Nat.mul_comm]; exact hz), rfl, q _ I.fresh⟩
/-- list.extend(list), the second one tracked or frozen -/
def rExtR (K : PySem.W.Frag) : V → List V → Hp → VK → Prop := fun x vs H Q => ∃ l b xs zs, x = .ref l ∧ vs = [.ref b] ∧ H l = some (.lst xs) ∧ LsG K H b zs ∧ xs.length + zs.length ≤ sizeLine ∧ Q .non (upd H l (.lst (xs ++ zs)))
theorem mt_extR : MtM X "list.extend" (rExtR X.K) := by
  intro pins s σ H x xs v us Q I rx rv h
  obtain ⟨l, b, xs, zs, rfl, rfl, hH, hB, hz, q⟩ := h
  cases rx
  obtain ⟨u, rfl, ru⟩ := rv.one
  cases ru
  obtain ⟨z, its, n, r, hl, e⟩ := I.lstM hH
  obtain ⟨z2, its2, n2, r2, e2⟩ := LsG.ok I hB
  have hl2 := r2.length
  have hsz : its.toArray.size + its2.toArray.size ≤ sizeLine := by rw [List.size_toArray, List.size_toArray]; omega
  have hlong : ¬ (!its.toArray.isEmpty && Builtin.List.listTooLong (its.toArray.size + its2.toArray.size)) = true := by
    rw [notLongL hsz, Bool.and_false]
    exact Bool.false_ne_true
  refine call_meets PySem.F.slot_list_extend ⟨_, e, rfl⟩ PySem.F.entry_list_extend (PySem.F.args_list_extend_2 _ _)
    (AutoSeq1.list_extend_list_list_0 l its.toArray n b its2.toArray n2 hlong (by rw [List.size_toArray]; omega) (by omega)) ⟨e, e2, ?_⟩
  refine ⟨.non, _, I.lset (its' := its ++ its2) hH e (by simp) (r.append r2) ?_, rfl, q⟩
  rw [List.length_append]
  omega
/-- the method of a tuple whose object is known -/
def tyT (K : PySem.W.Frag) (x : V) (H : Hp) : Prop := ∃ p xs, x = .ref p ∧ TupAt K H p xs
def tBMT (K : PySem.W.Frag) (r : V → List V → Hp → VK → Prop) (to : TE) (t : TA) : TE := fun σ H Q => to σ H fun x H1 => tyT K x H1 ∧ t σ H1 fun xs H2 => r x xs H2 Q
theorem pe_bmT {o e : Expr} {to : TE} {name : Str} {apos cpos : Pos} {id : String} {r : V → List V → Hp → VK → Prop} (slot : Slot "tuple" name id) (hty : typeOf (.builtin id) = pure (.type "method_descriptor")) (hm : MtR X id r) (ho : PE X o to) (ha : PA X (e :: es) t)
    (hbase : attributeBase o name X.env (eval o X.env) = eval o X.env := by rfl)
    (hfew : ((backTo cpos (starEach (e :: es) X.env)).all (fun x => !x.1) && (backToKw cpos (keywordEach [] X.env)).all (fun x => x.1.isSome)
      && decide ((e :: es).length + ([] : List Keyword).length + (if ([] : List Keyword).isEmpty then 0 else 1) < 30)) = true := by rfl)
    (hline : (apos.endLine == cpos.line) = true := by rfl) (hs : starEach (e :: es) X.env = (false, eval e X.env) :: starEach es X.env := by rfl) (hplain : (backTo cpos (starEach es X.env)).any (·.1) = false := by rfl) :
    PE X (.Call (.Attribute o name apos) (e :: es) [] cpos) (tBMT X.K r to t) := by
  refine ⟨fun pins s σ H Q I h => ?_⟩
  refine wpAny_Call_method_late hbase hfew hline rfl (thn (ho.run pins s σ H _ I h) fun v s1 ⟨x, H1, I1, r1, ty, q1⟩ => ?_)
  obtain ⟨p, xs, rfl, hp⟩ := ty
  cases r1
  obtain ⟨ot, hot, hc, hd⟩ : ∃ o, s1.heap.get? p = some o ∧ o.cls = .type "tuple" ∧ o.dict = none := by
    rcases hp with ⟨ob, hp, hd⟩ | ⟨o, its, n, h1, h2, h3, _⟩
    · obtain ⟨hg, _, its, _, ot, hot, hc, _⟩ := I1.hok p _ hp
      have hoo : ot = ob := Option.some.inj (hot.symm.trans hg)
      subst hoo
      exact ⟨ot, hot, hc, hd⟩
    · exact ⟨o, I1.kIn p o h1, h2, h3⟩
  refine ⟨"tuple", id, PySem.F.plainAttrs_tuple, slot, hty, ⟨ot, hot, hc⟩, fun a e => by cases e; exact ⟨ot, hot, hd⟩, ?_⟩
  have hA := ha.run cpos pins s1 σ H1 _ I1 q1
  rw [hs] at hA ⊢
  refine Calls.callWith_builtin (by show (false || (backTo cpos (starEach es X.env)).any (·.1)) = false; rw [hplain] <;> rfl) (Calls.evalArgs_plain ?_)
  exact thn hA fun us s2 ⟨vs, H2, I2, r2, q2⟩ => hm pins s2 σ H2 (.ref p) vs (.ref p) us Q I2 rfl r2 q2
/-- t.index(x), t of flat things -/
def rTix (K : PySem.W.Frag) : V → List V → Hp → VK → Prop := fun x xs H Q => ∃ (a : Addr) (ys : List V) (y : V) (j : Nat) (z : V), x = V.ref a ∧ xs = [y] ∧ SqT K H a ys ∧ flatV y = true ∧ ys.all flatV = true ∧ ys[j]? = some z ∧ eqV z y = true ∧
  (∀ (m : Nat) (z' : V), m < j → ys[m]? = some z' → eqV z' y = false) ∧ Q (.int (j : Nat)) H
def rTcount (K : PySem.W.Frag) : V → List V → Hp → VK → Prop := fun x xs H Q => ∃ (a : Addr) (ys : List V) (y : V), x = V.ref a ∧ xs = [y] ∧ SqT K H a ys ∧ flatV y = true ∧ ys.all flatV = true ∧ Q (.int (ys.countP fun z => eqV z y : Nat)) H
theorem mt_tix : MtR X "tuple.index" (rTix X.K) := by
  intro pins s σ H x xs v us Q I rx rxs h
  obtain ⟨a, ys, y, j, z, rfl, rfl, hs, fy, fys, hz, hzj, hno, q⟩ := h
  cases rx
  cases rxs with
  | cons ry rt =>
    rename_i uy ut
    cases rt
    obtain ⟨its, rv, ⟨⟨cls, dd, data, sl⟩, ho, hc, n, hd⟩, hlen⟩ := I.tuple hs
    simp only at hc hd
    subst hc hd
    obtain ⟨u, hu, ru⟩ := rv.get hz
    obtain ⟨hjl, hje⟩ := List.getElem?_eq_some_iff.mp hu
    have hvl := rv.length
    have hj : j < its.toArray.size := by simpa using hjl
    refine call_meets PySem.F.slot_tuple_index ⟨_, ho, rfl⟩ PySem.F.entry_tuple_index (PySem.F.args_tuple_index_2 _ _)
      (TI.tuple_indexAt a its.toArray n dd sl uy (eqU y) j hj ?_ ?_) ⟨ho, fun u' hu' => mem_eqAt ry fy rv fys u' (by simpa using hu'), ?_⟩
    · have e1 : its.toArray[j] = u := by simpa using hje
      rw [e1, eqU_of ru (flat_at fys hz)]
      exact hzj
    · intro m hm hmj
      have hml : m < its.length := by simpa using hm
      have hmy : m < ys.length := by omega
      have hy' : ys[m]? = some ys[m] := List.getElem?_eq_getElem hmy
      obtain ⟨u2, hu2, ru2⟩ := rv.get hy'
      obtain ⟨_, hme⟩ := List.getElem?_eq_some_iff.mp hu2
      have e1 : its.toArray[m] = u2 := by simpa using hme
      rw [e1, eqU_of ru2 (flat_at fys hy')]
      exact hno m _ hmj hy'
    · exact ⟨.int (j : Nat), H, I.tok _, ⟨_, rfl⟩, q⟩
theorem countU {y : V} : ∀ {ys : List V} {its : List Value}, Vals ys its → ys.all flatV = true → its.countP (eqU y) = ys.countP fun z => eqV z y
  | _, _, .nil, _ => rfl
  | x :: xs, u :: us, .cons r t, h => by
    rw [List.all_cons, Bool.and_eq_true] at h
    rw [List.countP_cons, List.countP_cons, countU t h.2, eqU_of r h.1]
theorem mt_tcount : MtR X "tuple.count" (rTcount X.K) := by
  intro pins s σ H x xs v us Q I rx rxs h
  obtain ⟨a, ys, y, rfl, rfl, hs, fy, fys, q⟩ := h
  cases rx
  cases rxs with
  | cons ry rt =>
    rename_i uy ut
    cases rt
    obtain ⟨its, rv, ⟨⟨cls, dd, data, sl⟩, ho, hc, n, hd⟩, hlen⟩ := I.tuple hs
    simp only at hc hd
    subst hc hd
    refine call_meets PySem.F.slot_tuple_count ⟨_, ho, rfl⟩ PySem.F.entry_tuple_count (PySem.F.args_tuple_count_2 _ _)
      (SeqAt.tuple_countAt a its.toArray n dd sl uy (eqU y)) ⟨ho, fun u' hu' => mem_eqAt ry fy rv fys u' (by simpa using hu'), ?_⟩
    refine ⟨.int (ys.countP fun z => eqV z y : Nat), H, I.tok _, ⟨s.toks, ?_⟩, q⟩
    show Value.int ((its.toArray.toList.countP (eqU y) : Nat) : Int) s.toks = Value.int ((ys.countP fun z => eqV z y : Nat) : Int) s.toks
    rw [show its.toArray.toList = its from rfl, countU rv fys]
end
end Fx
set_option Elab.async false
set_option linter.all false
set_option maxRecDepth 100000
set_option maxHeartbeats 4000000
/-! Fx2: expressions. -/
namespace Fx
open PySem L2
section
variable {c : Cf} {B : List (Nat × Addr)} {W : WX} {X : Cx}

/-! ### results of operations: frozen, or new -/
def K1 (c : Cf) (G H : Hp) (d : D) (Q : VK) : Prop := ∀ G' H' v, Ext G H G' H' → Rep c G' v d → Q v H'
def K2 (c : Cf) (G H : Hp) (d : D) (Q : VK) : Prop := ∀ p H', H p = none → Same H H' → Own c G (H' p) d → Q (.ref p) H'
theorem ext_own {G H H' : Hp} {p : Addr} {d : D} (s : Same G H) (hp : H p = none) (hh : Same H H') (o : Own c G (H' p) d) : ∃ G', Ext G H G' H' ∧ Rep c G' (.ref p) d := by
  obtain ⟨u, hu⟩ := o.some
  have gp : G p = none := s.free hp
  have e : Ext G H (upd G p u) H' := ⟨same_upd gp, hh, fun b w q => by
    by_cases z : b = p
    · subst z; rw [upd_same] at q; rw [hu]; exact q
    · rw [upd_ne z] at q; exact hh b w (s b w q), fun b w q => upd_ne (ne_of_none q hp)⟩
  refine ⟨_, e, ?_⟩
  have o' : Own c G ((upd G p u) p) d := by rw [upd_same, ← hu]; exact o
  exact o'.rep e.gg
theorem K1.to2 {G H : Hp} {d : D} {Q : VK} (s : Same G H) (k : K1 c G H d Q) : K2 c G H d Q := fun p H' hp hh o => by
  obtain ⟨G', e, r⟩ := ext_own s hp hh o
  exact k G' H' _ e r
theorem K1.flat {G H : Hp} {d : D} {Q : VK} (s : Same G H) (k : K1 c G H d Q) {v : V} (r : Rep c G v d) : Q v H := k G H v (Ext.refl s) r
theorem K1.new {G H : Hp} {d : D} {Q : VK} (s : Same G H) (k : K1 c G H d Q) {p : Addr} {o : HO} (hp : H p = none) (r : Rep c (upd G p o) (.ref p) d) : Q (.ref p) (upd H p o) := k _ _ _ (Ext.upd s hp) r
theorem K1.tup {G H : Hp} {ds : List D} {Q : VK} (s : Same G H) (k : K1 c G H (.tup ds) Q) {p : Addr} {its : List Value} {xs : List V} (hp : H p = none) (r : RepL c G xs ds) : Q (.ref p) (upd H p (.frz (tob its) (.tup xs))) :=
  k.new s hp (.tup (.inl ⟨_, upd_same, rfl⟩) (r.mono (same_upd (s.free hp))))
theorem K2.lst {G H : Hp} {ds : List D} {Q : VK} (k : K2 c G H (.lst ds) Q) {p : Addr} {xs : List V} (hp : H p = none) (r : RepL c G xs ds) : Q (.ref p) (upd H p (.lst xs)) :=
  k p _ hp (same_upd hp) ⟨xs, upd_same, r⟩

/-! ### operations by values -/
/-- what r asks follows from the operation's function on data -/
def Sem2 (c : Cf) (r : R2) (sem : D → D → Option D) : Prop := ∀ (G H : Hp) (x y : V) (d1 d2 d : D) (Q : VK), Same G H → Opr c G H x d1 → Opr c G H y d2 → sem d1 d2 = some d → K1 c G H d Q → r x y H Q
def Sem2F (c : Cf) (r : R2) (sem : D → D → Option D) : Prop := ∀ (G H : Hp) (x y : V) (d1 d2 d : D) (Q : VK), Same G H → Opr c G H x d1 → Opr c G H y d2 → sem d1 d2 = some d → K2 c G H d Q → r x y H Q
theorem Sem2F.plain {r : R2} {sem : D → D → Option D} (h : Sem2F c r sem) : Sem2 c r sem := fun G H x y d1 d2 d Q s a b e k => h G H x y d1 d2 d Q s a b e (k.to2 s)
/-- the meaning of an operation with two operands -/
def mOp2 (sem : D → D → Option D) (oa ob : Opn) : M D := oa.pre.bind fun a => ob.pre.bind fun b => (rdM oa a).bind fun d1 => (rdM ob b).bind fun d2 => M.lift (sem d1 d2)

theorem After.lift {α : Type} {G H : Hp} {A : Addr → Prop} {σ : L2.St} {ρ : Cells} {o : Option α} {Q : α → Cells → Hp → Hp → Prop} (h : After c B W G A H σ (M.lift o ρ) Q) (R : Rel c B G A H σ ρ) : ∃ d, o = some d ∧ Q d ρ G H := by
  cases o with
  | none => exact h.elim
  | some d => exact ⟨d, rfl, After.ok h R⟩
theorem After.rd {α : Type} {G H : Hp} {A : Addr → Prop} {σ : L2.St} {ρ : Cells} {o : Opn} {a : D} {k : D → M α} {Q : α → Cells → Hp → Hp → Prop} (h : After c B W G A H σ (((rdM o a).bind k) ρ) Q) : ∃ d, o.rd a ρ = some d ∧ After c B W G A H σ (k d ρ) Q := by
  unfold M.bind rdM at h
  cases e : o.rd a ρ with
  | none => rw [e] at h; exact h.elim
  | some d => rw [e] at h; exact ⟨d, rfl, h⟩
/-- the heart of a two-operand rule -/
theorem op2_core {r : R2} {sem : D → D → Option D} {oa ob : Opn} {σ : L2.St} {H : Hp} {Q : VK} {Qd : D → Hp → Hp → Prop} {A : Addr → Prop} {G : Hp} {ρ : Cells} (R : Rel c B G A H σ ρ) (a : After c B W G A H σ (mOp2 sem oa ob ρ) fun d _ G' H' => Qd d G' H')
    (k : ∀ G' H' x y d1 d2 d, Same G' H' → Opr c G' H' x d1 → Opr c G' H' y d2 → sem d1 d2 = some d → Qd d G' H' → r x y H' Q) : tOp r (tO c B W oa) (tO c B W ob) σ H Q := by
  refine ⟨G, A, ρ, R, a.split.imp fun da ρ1 G1 H1 _ _ R1 a1 x fx => ?_⟩
  refine ⟨G1, A, ρ1, R1, a1.split.imp fun db ρ2 G2 H2 s2 _ R2 a2 y fy => ?_⟩
  obtain ⟨d1, e1, a2⟩ := a2.rd
  obtain ⟨d2, e2, a2⟩ := a2.rd
  obtain ⟨d, e, q⟩ := a2.lift R2
  exact k G2 H2 x y d1 d2 d R2.same (fx G2 H2 ρ2 d1 s2 R2 e1) (fy G2 H2 ρ2 d2 (Same.refl _) R2 e2) e q
theorem After.k1 {G H : Hp} {A : Addr → Prop} {σ : L2.St} {ρ : Cells} {f : M D} {Q : VK} (a : After c B W G A H σ (f ρ) fun d _ G' H' => ∀ v, Rep c G' v d → Q v H') : After c B W G A H σ (f ρ) fun d _ G' H' => K1 c G' H' d Q := by
  cases e : f ρ with
  | stuck => rw [e] at a; exact a
  | exc x ρ' => rw [e] at a; exact a
  | ok d ρ' =>
    rw [e] at a
    intro G' H' s k R G2 H2 v x r
    exact a G2 H2 (s.trans x.gg) (k.trans x.keep) (R.ext x) v r
theorem After.k2 {G H : Hp} {A : Addr → Prop} {σ : L2.St} {ρ : Cells} {f : M D} {Q : VK} (a : After c B W G A H σ (f ρ) fun d _ G' H' => ∀ p H2, H' p = none → Same H' H2 → Own c G' (H2 p) d → Q (.ref p) H2) : After c B W G A H σ (f ρ) fun d _ G' H' => K2 c G' H' d Q := a
theorem pm_op {e : Expr} {r : R2} {sem : D → D → Option D} {oa ob : Opn} (hs : Sem2 c r sem) (h : PE X e (tOp r (tO c B W oa) (tO c B W ob))) : PE X e (tM c B W (mOp2 sem oa ob)) :=
  pe_imp h fun σ H Q ⟨G, A, ρ, R, a⟩ => op2_core R a.k1 fun G' H' x y d1 d2 d s o1 o2 e q => hs G' H' x y d1 d2 d Q s o1 o2 e q
theorem pf_op {e : Expr} {r : R2} {sem : D → D → Option D} {oa ob : Opn} (hs : Sem2F c r sem) (h : PE X e (tOp r (tO c B W oa) (tO c B W ob))) : PE X e (tF c B W (mOp2 sem oa ob)) :=
  pe_imp h fun σ H Q ⟨G, A, ρ, R, a⟩ => op2_core R a.k2 fun G' H' x y d1 d2 d s o1 o2 e q => hs G' H' x y d1 d2 d Q s o1 o2 e q
/-- what is new may be frozen -/
theorem pm_of_pf {e : Expr} {f : M D} (h : PE X e (tF c B W f)) : PE X e (tM c B W f) := pe_imp h fun σ H Q ⟨G, A, ρ, R, a⟩ => ⟨G, A, ρ, R, a.k1.imp fun d ρ' G' H' _ _ R' k => k.to2 R'.same⟩

/-! ### names, constants -/
def mVar (i : Nat) : M D := fun ρ => match ρ[i]? with
  | some (.dat d) => .ok d ρ
  | _ => .stuck
theorem pm_var (i : Nat) {x : Str} {pos : Pos} (hN : X.N[i]? = some x := by rfl) (hv : Vis X.env.scope x := by first | exact Or.inl rfl | exact Or.inr (Or.inl rfl) | exact Or.inr (Or.inr rfl)) (hd : (x == ("__debug__" : Str)) = false := by decide)
    (hcd : (x == ("__classdict__" : Str)) = false := by decide) : PE X (.Name x pos) (tM c B W (mVar i)) := pe_imp (pe_var hN hv hd hcd) fun σ H Q ⟨G, A, ρ, R, a⟩ => by
  unfold mVar at a
  cases q : ρ[i]? with
  | none => rw [q] at a; exact a.elim
  | some cl =>
    rw [q] at a
    cases cl with
    | no => exact a.elim
    | own d => exact a.elim
    | dat d =>
      obtain ⟨v, h1, h2⟩ := R.dat i d q
      exact ⟨v, h1, After.ok a R v h2⟩
theorem pm_c {e : Expr} {v : V} {d : D} (h : PE X e (tC v)) (r : ∀ G, Rep c G v d) : PE X e (tM c B W (M.pure d)) := pe_imp h fun σ H Q ⟨G, A, ρ, R, a⟩ => After.ok a R v (r G)
theorem pm_int {i j pos} : PE X (.Constant (.int i) j pos) (tM c B W (M.pure (.int i))) := pm_c pe_int fun _ => .int i
theorem pm_bl {i j pos} : PE X (.Constant (.bool i) j pos) (tM c B W (M.pure (.bl i))) := pm_c pe_bl fun _ => .bl i
theorem pm_non {j pos} : PE X (.Constant .none j pos) (tM c B W (M.pure .non)) := pm_c pe_non fun _ => .non
theorem pm_str {x j pos} : PE X (.Constant (.str x) j pos) (tM c B W (M.pure (.str x))) := pm_c pe_str fun _ => .str x
/-- a module's int -/
theorem pm_globI {x : Str} {i : Int} {t : Tok} {pos : Pos} (hm : X.mg x = some (.int i t)) (hg : Gl X x := by rfl) (hd : (x == ("__debug__" : Str)) = false := by decide) : PE X (.Name x pos) (tM c B W (M.pure (.int i))) := pm_c (v := .int i) (pe_glob hg hm ⟨t, rfl⟩ hd) fun _ => .int i

/-! ### tests, and, or, not, if -/
def mB (f : M D) : M Bool := f.bind fun d => match d with
  | .bl b => M.pure b
  | _ => M.stuck
theorem mB_core {G H : Hp} {A : Addr → Prop} {σ : L2.St} {ρ : Cells} {f : M D} {Q : Bool → Cells → Hp → Hp → Prop} (R : Rel c B G A H σ ρ) (a : After c B W G A H σ (mB f ρ) Q) : After c B W G A H σ (f ρ) fun d ρ' G' H' => ∃ b, d = .bl b ∧ Q b ρ' G' H' :=
  a.split.imp fun d ρ' G' H' _ _ R' q => by
    cases d <;> first | exact q.elim | skip
    exact ⟨_, rfl, After.ok q R'⟩
theorem rep_bl {G : Hp} {v : V} {b : Bool} (r : Rep c G v (.bl b)) : v = .bl b := by cases r; rfl
theorem rep_int {G : Hp} {v : V} {b : Int} (r : Rep c G v (.int b)) : v = .int b := by cases r; rfl
theorem tB_core {σ : L2.St} {H : Hp} {f : M D} {Q : Bool → Hp → Prop} (h : tT c B W (mB f) σ H Q) : tM c B W f σ H fun x H1 => ∃ b, x = .bl b ∧ Q b H1 := by
  obtain ⟨G, A, ρ, R, a⟩ := h
  refine ⟨G, A, ρ, R, (mB_core R a).imp fun d ρ' G' H' _ _ _ ⟨b, e, q⟩ v r => ?_⟩
  subst e
  exact ⟨b, rep_bl r, q⟩
/-- a value as a test -/
theorem pt_v {e : Expr} {f : M D} (h : PE X e (tM c B W f)) (he : ∀ whole, isTrue e X.env whole = (do let v ← whole; standAt e.pos; holding [v] (truthy v)) := by intro _; rfl) : PT X e (tT c B W (mB f)) :=
  pt_imp (pt_val h he) fun σ H Q h => tB_core h
/-- a comparison as a test -/
theorem pt_op {e : Expr} {r : R2} {sem : D → D → Option D} {oa ob : Opn} (hs : Sem2 c r sem) (h : PT X e (tTest (tOp r (tO c B W oa) (tO c B W ob)))) : PT X e (tT c B W (mB (mOp2 sem oa ob))) :=
  pt_imp h fun σ H Q h => by
    obtain ⟨G, A, ρ, R, a⟩ := tB_core h
    exact op2_core R a.k1 fun G' H' x y d1 d2 d s o1 o2 e q => hs G' H' x y d1 d2 d _ s o1 o2 e q
def mAnd (f g : M Bool) : M Bool := f.bind fun b => if b = true then g else M.pure false
def mOr (f g : M Bool) : M Bool := f.bind fun b => if b = true then M.pure true else g
def mNot (f : M Bool) : M Bool := f.bind fun b => M.pure (!b)
def mIf {α : Type} (b : M Bool) (f g : M α) : M α := b.bind fun b => if b = true then f else g
theorem ite_prop {b : Bool} {P Q : Prop} (h1 : b = true → P) (h2 : b = false → Q) : if b = true then P else Q := by
  cases b with
  | true => rw [if_pos rfl]; exact h1 rfl
  | false => rw [if_neg Bool.false_ne_true]; exact h2 rfl
theorem pw_and1' {op} {a : Expr} {f : M Bool} (h : PT X a (tT c B W f)) : PW X (.BoolOp op [a] pos) (tT c B W f) := by
  first
    | exact pw_and1 h
    | exact pw_or1 h
    | (cases op <;> first | exact pw_and1 h | exact pw_or1 h)
theorem pw_andM {a b : Expr} {rest : List Expr} {pos : Pos} {f g : M Bool} (ha : PT X a (tT c B W f)) (hb : PW X (.BoolOp .And (b :: rest) pos) (tT c B W g)) : PW X (.BoolOp .And (a :: b :: rest) pos) (tT c B W (mAnd f g)) := by
  refine ⟨fun whole pins s σ H Q I h => (pw_and ha hb).run whole pins s σ H Q I ?_⟩
  obtain ⟨G, A, ρ, R, a⟩ := h
  refine ⟨G, A, ρ, R, a.split.imp fun x ρ' G' H' _ _ R' q => ite_prop (fun e => ?_) (fun e => ?_)⟩
  · rw [if_pos e] at q; exact ⟨G', A, ρ', R', q⟩
  · rw [if_neg (by rw [e]; exact Bool.false_ne_true)] at q; exact After.ok q R'
theorem pw_orM {a b : Expr} {rest : List Expr} {pos : Pos} {f g : M Bool} (ha : PT X a (tT c B W f)) (hb : PW X (.BoolOp .Or (b :: rest) pos) (tT c B W g)) : PW X (.BoolOp .Or (a :: b :: rest) pos) (tT c B W (mOr f g)) := by
  refine ⟨fun whole pins s σ H Q I h => (pw_or ha hb).run whole pins s σ H Q I ?_⟩
  obtain ⟨G, A, ρ, R, a⟩ := h
  refine ⟨G, A, ρ, R, a.split.imp fun x ρ' G' H' _ _ R' q => ite_prop (fun e => ?_) (fun e => ?_)⟩
  · rw [if_pos e] at q; exact After.ok q R'
  · rw [if_neg (by rw [e]; exact Bool.false_ne_true)] at q; exact ⟨G', A, ρ', R', q⟩
theorem pt_notM {a : Expr} {pos : Pos} {f : M Bool} (ha : PT X a (tT c B W f)) : PT X (.UnaryOp .Not a pos) (tT c B W (mNot f)) :=
  pt_imp (pt_not ha) fun σ H Q ⟨G, A, ρ, R, a⟩ => ⟨G, A, ρ, R, a.split.imp fun x ρ' G' H' _ _ R' q => After.ok q R'⟩
/-- as values -/
def mV (f : M Bool) : M D := f.bind fun b => M.pure (.bl b)
def mAndV (f g : M D) : M D := (mB f).bind fun b => if b = true then g else M.pure (.bl false)
def mOrV (f g : M D) : M D := (mB f).bind fun b => if b = true then M.pure (.bl true) else g
def mNotV (f : M D) : M D := (mB f).bind fun b => M.pure (.bl (!b))
theorem pm_oneV {op} {a : Expr} {pos : Pos} {f : M D} (h : PE X a (tM c B W f)) : PE X (.BoolOp op [a] pos) (tM c B W f) := pe_one h
theorem pm_andV {a b : Expr} {rest : List Expr} {pos : Pos} {f g : M D} (ha : PE X a (tM c B W f)) (hb : PE X (.BoolOp .And (b :: rest) pos) (tM c B W g)) : PE X (.BoolOp .And (a :: b :: rest) pos) (tM c B W (mAndV f g)) :=
  pe_imp (pe_and ha hb) fun σ H Q ⟨G, A, ρ, R, a⟩ => by
    refine ⟨G, A, ρ, R, (mB_core R a.split).imp fun d ρ' G' H' _ _ R' ⟨b, e, q⟩ v r => ?_⟩
    subst e
    refine ⟨b, rep_bl r, ite_prop (fun e => ?_) (fun e => ?_)⟩
    · rw [if_pos e] at q; exact ⟨G', A, ρ', R', q⟩
    · rw [if_neg (by rw [e]; exact Bool.false_ne_true)] at q; exact After.ok q R' _ (.bl false)
theorem pm_orV {a b : Expr} {rest : List Expr} {pos : Pos} {f g : M D} (ha : PE X a (tM c B W f)) (hb : PE X (.BoolOp .Or (b :: rest) pos) (tM c B W g)) : PE X (.BoolOp .Or (a :: b :: rest) pos) (tM c B W (mOrV f g)) :=
  pe_imp (pe_or ha hb) fun σ H Q ⟨G, A, ρ, R, a⟩ => by
    refine ⟨G, A, ρ, R, (mB_core R a.split).imp fun d ρ' G' H' _ _ R' ⟨b, e, q⟩ v r => ?_⟩
    subst e
    refine ⟨b, rep_bl r, ite_prop (fun e => ?_) (fun e => ?_)⟩
    · rw [if_pos e] at q; exact After.ok q R' _ (.bl true)
    · rw [if_neg (by rw [e]; exact Bool.false_ne_true)] at q; exact ⟨G', A, ρ', R', q⟩
theorem pm_notV {a : Expr} {pos : Pos} {f : M D} (ha : PE X a (tM c B W f)) : PE X (.UnaryOp .Not a pos) (tM c B W (mNotV f)) :=
  pe_imp (pe_not ha) fun σ H Q ⟨G, A, ρ, R, a⟩ => by
    refine ⟨G, A, ρ, R, (mB_core R a.split).imp fun d ρ' G' H' _ _ R' ⟨b, e, q⟩ v r => ?_⟩
    subst e
    exact ⟨b, rep_bl r, After.ok q R' _ (.bl _)⟩
theorem pm_if {t a b : Expr} {pos : Pos} {h : M Bool} {f g : M D} (ht : PT X t (tT c B W h)) (ha : PE X a (tM c B W f)) (hb : PE X b (tM c B W g)) : PE X (.IfExp t a b pos) (tM c B W (mIf h f g)) :=
  pe_imp (pe_ifExp ht ha hb) fun σ H Q ⟨G, A, ρ, R, a⟩ => by
    refine ⟨G, A, ρ, R, a.split.imp fun b ρ' G' H' _ _ R' q => ite_prop (fun e => ?_) (fun e => ?_)⟩
    · rw [if_pos e] at q; exact ⟨G', A, ρ', R', q⟩
    · rw [if_neg (by rw [e]; exact Bool.false_ne_true)] at q; exact ⟨G', A, ρ', R', q⟩

/-! ### chains of two comparisons -/
def mChain (s1 s2 : D → D → Option D) (oa ob oc : Opn) : M D := oa.pre.bind fun a => ob.pre.bind fun b => (rdM oa a).bind fun d1 => (rdM ob b).bind fun d2 => (M.lift (s1 d1 d2)).bind fun z => match z with
  | .bl true => oc.pre.bind fun e => (rdM ob b).bind fun d2 => (rdM oc e).bind fun d3 => M.lift (s2 d2 d3)
  | .bl false => M.pure (.bl false)
  | _ => M.stuck
theorem After.liftB {α β : Type} {G H : Hp} {A : Addr → Prop} {σ : L2.St} {ρ : Cells} {o : Option α} {k : α → M β} {Q : β → Cells → Hp → Hp → Prop} (h : After c B W G A H σ (((M.lift o).bind k) ρ) Q) : ∃ d, o = some d ∧ After c B W G A H σ (k d ρ) Q := by
  cases o with
  | none => exact h.elim
  | some d => exact ⟨d, rfl, h⟩
theorem pm_chain {e : Expr} {r r' : R2} {s1 s2 : D → D → Option D} {oa ob oc : Opn} (h1 : Sem2 c r s1) (h2 : Sem2 c r' s2) (h : PE X e (tChain r r' (tO c B W oa) (tO c B W ob) (tO c B W oc))) : PE X e (tM c B W (mChain s1 s2 oa ob oc)) :=
  pe_imp h fun σ H Q ⟨G, A, ρ, R, a⟩ => by
    refine ⟨G, A, ρ, R, a.split.imp fun da ρ1 G1 H1 _ _ R1 a1 x fx => ?_⟩
    refine ⟨G1, A, ρ1, R1, a1.split.imp fun db ρ2 G2 H2 s2' _ R2 a2 y fy => ?_⟩
    obtain ⟨d1, e1, a2⟩ := a2.rd
    obtain ⟨d2, e2, a2⟩ := a2.rd
    obtain ⟨d, e, q⟩ := a2.liftB
    refine h1 G2 H2 x y d1 d2 d _ R2.same (fx G2 H2 ρ2 d1 s2' R2 e1) (fy G2 H2 ρ2 d2 (Same.refl _) R2 e2) e fun G3 H3 z x3 rz => ?_
    have R3 := R2.ext x3
    cases d <;> first | exact q.elim | skip
    rename_i k
    refine ⟨k, rep_bl rz, ite_prop (fun ek => ?_) (fun ek => ?_)⟩
    · subst ek
      have q' := After.of x3.gg x3.keep q
      refine ⟨G3, A, ρ2, R3, q'.split.imp fun de ρ4 G4 H4 s4 _ R4 a4 w fw => ?_⟩
      obtain ⟨d2', e2', a4⟩ := a4.rd
      obtain ⟨d3, e3, a4⟩ := a4.rd
      obtain ⟨dr, er, a4⟩ := a4.k1.lift R4
      exact h2 G4 H4 y w d2' d3 dr _ R4.same (fy G4 H4 ρ4 d2' (x3.gg.trans s4) R4 e2') (fw G4 H4 ρ4 d3 (Same.refl _) R4 e3) er a4
    · subst ek
      exact After.ok (After.of x3.gg x3.keep q) R3 _ (.bl false)
end
end Fx
set_option Elab.async false
set_option linter.all false
set_option maxRecDepth 100000
set_option maxHeartbeats 4000000
/-! Fx3: arguments, calls of built-ins, methods, displays, slices; the operations. -/
namespace Fx
open PySem L2

/-! ### data as the library's data -/
mutual
def toPy : D → PyData
  | .non => .none
  | .bl b => .bool b
  | .int i => .int i
  | .str x => .str x
  | .tup ds => .tuple (toPys ds)
  | .lst ds => .list (toPys ds)
  | .dic _ _ => .dict []
  | .rcd _ _ => .dict []
  | .exc _ _ => .dict []
  | .raw _ => .dict []
def toPys : List D → List PyData
  | [] => []
  | d :: ds => toPy d :: toPys ds
end
theorem toPys_map : ∀ ds : List D, toPys ds = ds.map toPy
  | [] => rfl
  | d :: ds => by rw [toPys, toPys_map ds]; rfl
/-- what == and in may look at -/
def plain (d : D) : Bool := (toPy d).canLay0
section
variable {c : Cf} {G H : Hp}
mutual
theorem Rep.dp (s : Same G H) : ∀ {v : V} {d : D}, Rep c G v d → plain d = true → Dp c.K H v (toPy d)
  | _, _, .non, _ => by unfold toPy; exact .non
  | _, _, .bl b, _ => by unfold toPy; exact .bl b
  | _, _, .int i, _ => by unfold toPy; exact .int i
  | _, _, .str x, _ => by unfold toPy; exact .str x
  | _, _, .tup e r, h => by
    unfold plain at h
    rw [toPy] at h ⊢
    unfold PyData.canLay0 at h
    exact .tup (e.mono s).sq (RepL.dp s r h)
  | _, _, .lst e r, h => by
    unfold plain at h
    rw [toPy] at h ⊢
    unfold PyData.canLay0 at h
    exact .lst (e.mono s).sq (RepL.dp s r h)
  | _, _, .dic .., h => by unfold plain toPy PyData.canLay0 at h; cases h
  | _, _, .rcd .., h => by unfold plain toPy PyData.canLay0 at h; cases h
  | _, _, .raw _, h => by unfold plain toPy PyData.canLay0 at h; cases h
theorem RepL.dp (s : Same G H) : ∀ {vs : List V} {ds : List D}, RepL c G vs ds → PyData.canLayAll0 (toPys ds) = true → DpAll c.K H vs (toPys ds)
  | _, _, .nil, _ => by unfold toPys; exact .nil
  | _, _, .cons r t, h => by
    unfold toPys at h ⊢
    unfold PyData.canLayAll0 at h
    rw [Bool.and_eq_true] at h
    exact .cons (Rep.dp s r h.1) (RepL.dp s t h.2)
end
theorem Opr.dp (s : Same G H) {v : V} {d : D} (h : Opr c G H v d) (p : plain d = true) : Dp c.K H v (toPy d) := by
  rcases h with h | ⟨q, rfl, h⟩
  · exact h.dp s p
  · cases d <;> first | exact h.elim | skip
    · obtain ⟨xs, h1, h2⟩ := h
      unfold plain at p
      rw [toPy] at p ⊢
      unfold PyData.canLay0 at p
      exact .lst (SqL.of h1) (h2.dp s p)
    · unfold plain toPy PyData.canLay0 at p; cases p
    · unfold plain toPy PyData.canLay0 at p; cases p
/-- a list, owned or frozen -/
theorem Opr.lst (s : Same G H) {v : V} {ds : List D} (h : Opr c G H v (.lst ds)) : ∃ p xs, v = .ref p ∧ LsG c.K H p xs ∧ RepL c G xs ds := by
  rcases h with h | ⟨q, rfl, h⟩
  · cases h with
    | lst e r => exact ⟨_, _, rfl, e.mono s, r⟩
  · obtain ⟨xs, h1, h2⟩ := h
    exact ⟨_, _, rfl, .inl (.inl h1), h2⟩
theorem Opr.tup (s : Same G H) {v : V} {ds : List D} (h : Opr c G H v (.tup ds)) : ∃ p xs, v = .ref p ∧ TupAt c.K H p xs ∧ RepL c G xs ds ∧ Rep c G v (.tup ds) := by
  rcases h with h | ⟨q, rfl, h⟩
  · cases h with
    | tup e r => exact ⟨_, _, rfl, e.mono s, r, .tup e r⟩
  · exact h.elim
theorem Opr.rep {v : V} {d : D} (h : Opr c G H v d) (k : ∀ o, ¬ Own c G o d) : Rep c G v d := by
  rcases h with h | ⟨q, rfl, h⟩
  · exact h
  · exact absurd h (k _)
theorem Opr.int {v : V} {i : Int} (h : Opr c G H v (.int i)) : v = .int i := rep_int (h.rep fun o z => z)
theorem Opr.bl {v : V} {i : Bool} (h : Opr c G H v (.bl i)) : v = .bl i := rep_bl (h.rep fun o z => z)
end

/-! ### arguments -/
def seqM : List (M D) → M (List D)
  | [] => M.pure []
  | f :: fs => f.bind fun a => (seqM fs).bind fun as => M.pure (a :: as)
def preL : List Opn → M (List D)
  | [] => M.pure []
  | o :: os => o.pre.bind fun a => (preL os).bind fun as => M.pure (a :: as)
def rdL : List Opn → List D → Cells → Option (List D)
  | [], [], _ => some []
  | o :: os, a :: as, ρ => match o.rd a ρ, rdL os as ρ with
    | some d, some ds => some (d :: ds)
    | _, _ => none
  | _, _, _ => none
def rdLM (os : List Opn) (as : List D) : M (List D) := fun ρ => match rdL os as ρ with
  | some ds => .ok ds ρ
  | none => .stuck
abbrev OprL (c : Cf) (G H : Hp) : List V → List D → Prop := Paired (Opr c G H)
def tD (c : Cf) (B : List (Nat × Addr)) (W : WX) (fs : List (M D)) : TA := fun σ H Q => ∃ G A ρ, Rel c B G A H σ ρ ∧ After c B W G A H σ (seqM fs ρ) fun ds _ G' H' => ∀ vs, RepL c G' vs ds → Q vs H'
def tA (c : Cf) (B : List (Nat × Addr)) (W : WX) (os : List Opn) : TA := fun σ H Q => ∃ G A ρ, Rel c B G A H σ ρ ∧ After c B W G A H σ (preL os ρ) fun as _ G' H' => ∀ vs,
  (∀ G2 H2 ρ2 es, Same G' G2 → Rel c B G2 A H2 σ ρ2 → rdL os as ρ2 = some es → OprL c G2 H2 vs es) → Q vs H'
section
variable {c : Cf} {B : List (Nat × Addr)} {W : WX} {X : Cx}
theorem pd_nil : PA X [] (tD c B W []) := pa_imp pa_nil fun σ H Q ⟨G, A, ρ, R, a⟩ => After.ok a R [] .nil
theorem pd_cons {e : Expr} {es : List Expr} {f : M D} {fs : List (M D)} (ha : PE X e (tM c B W f)) (hr : PA X es (tD c B W fs)) (hs : starEach (e :: es) X.env = (false, eval e X.env) :: starEach es X.env := by rfl) : PA X (e :: es) (tD c B W (f :: fs)) :=
  pa_imp (pa_cons ha hr hs) fun σ H Q ⟨G, A, ρ, R, a⟩ => by
    refine ⟨G, A, ρ, R, a.split.imp fun d ρ1 G1 H1 _ _ R1 a1 v r => ?_⟩
    refine ⟨G1, A, ρ1, R1, a1.split.imp fun ds ρ2 G2 H2 s2 _ R2 a2 vs rs => ?_⟩
    exact After.ok a2 R2 (v :: vs) (.cons (r.mono s2) rs)
theorem pa_nilO : PA X [] (tA c B W []) := pa_imp pa_nil fun σ H Q ⟨G, A, ρ, R, a⟩ => After.ok a R [] fun _ _ _ es _ _ e => by cases e; exact .nil
theorem pa_consO {e : Expr} {es : List Expr} {o : Opn} {os : List Opn} (ha : PE X e (tO c B W o)) (hr : PA X es (tA c B W os)) (hs : starEach (e :: es) X.env = (false, eval e X.env) :: starEach es X.env := by rfl) : PA X (e :: es) (tA c B W (o :: os)) :=
  pa_imp (pa_cons ha hr hs) fun σ H Q ⟨G, A, ρ, R, a⟩ => by
    refine ⟨G, A, ρ, R, a.split.imp fun d ρ1 G1 H1 _ _ R1 a1 v fv => ?_⟩
    refine ⟨G1, A, ρ1, R1, a1.split.imp fun ds ρ2 G2 H2 s2 _ R2 a2 vs fvs => ?_⟩
    refine After.ok a2 R2 (v :: vs) fun G3 H3 ρ3 es s3 R3 e3 => ?_
    unfold rdL at e3
    cases e4 : o.rd d ρ3 with
    | none => rw [e4] at e3; cases e3
    | some d' =>
      cases e5 : rdL os ds ρ3 with
      | none => rw [e4, e5] at e3; cases e3
      | some ds' =>
        rw [e4, e5] at e3
        cases e3
        exact .cons (fv G3 H3 ρ3 d' (s2.trans s3) R3 e4) (fvs G3 H3 ρ3 ds' s3 R3 e5)

/-! ### calls of built-in functions and classes -/
def SemC (c : Cf) (r : List V → Hp → VK → Prop) (sem : List D → Option D) : Prop := ∀ (G H : Hp) (vs : List V) (ds : List D) (d : D) (Q : VK), Same G H → OprL c G H vs ds → sem ds = some d → K1 c G H d Q → r vs H Q
def SemCF (c : Cf) (r : List V → Hp → VK → Prop) (sem : List D → Option D) : Prop := ∀ (G H : Hp) (vs : List V) (ds : List D) (d : D) (Q : VK), Same G H → OprL c G H vs ds → sem ds = some d → K2 c G H d Q → r vs H Q
def mCall (sem : List D → Option D) (os : List Opn) : M D := (preL os).bind fun as => (rdLM os as).bind fun ds => M.lift (sem ds)
theorem After.rdL {α : Type} {G H : Hp} {A : Addr → Prop} {σ : L2.St} {ρ : Cells} {os : List Opn} {as : List D} {k : List D → M α} {Q : α → Cells → Hp → Hp → Prop} (h : After c B W G A H σ (((rdLM os as).bind k) ρ) Q) : ∃ ds, Fx.rdL os as ρ = some ds ∧ After c B W G A H σ (k ds ρ) Q := by
  unfold M.bind rdLM at h
  cases e : Fx.rdL os as ρ with
  | none => rw [e] at h; exact h.elim
  | some d => rw [e] at h; exact ⟨d, rfl, h⟩
theorem call_core {r : List V → Hp → VK → Prop} {sem : List D → Option D} {os : List Opn} {σ : L2.St} {H : Hp} {Q : VK} {Qd : D → Hp → Hp → Prop} {A : Addr → Prop} {G : Hp} {ρ : Cells} (R : Rel c B G A H σ ρ) (a : After c B W G A H σ (mCall sem os ρ) fun d _ G' H' => Qd d G' H')
    (k : ∀ G' H' vs ds d, Same G' H' → OprL c G' H' vs ds → sem ds = some d → Qd d G' H' → r vs H' Q) : tCB r (tA c B W os) σ H Q := by
  refine ⟨G, A, ρ, R, a.split.imp fun as ρ1 G1 H1 _ _ R1 a1 vs fv => ?_⟩
  obtain ⟨ds, e1, a1⟩ := a1.rdL
  obtain ⟨d, e, q⟩ := a1.lift R1
  exact k G1 H1 vs ds d R1.same (fv G1 H1 ρ1 ds (Same.refl _) R1 e1) e q
theorem pm_call {e : Expr} {r : List V → Hp → VK → Prop} {sem : List D → Option D} {os : List Opn} (hs : SemC c r sem) (h : PE X e (tCB r (tA c B W os))) : PE X e (tM c B W (mCall sem os)) :=
  pe_imp h fun σ H Q ⟨G, A, ρ, R, a⟩ => call_core R a.k1 fun G' H' vs ds d s o e q => hs G' H' vs ds d Q s o e q
theorem pf_call {e : Expr} {r : List V → Hp → VK → Prop} {sem : List D → Option D} {os : List Opn} (hs : SemCF c r sem) (h : PE X e (tCB r (tA c B W os))) : PE X e (tF c B W (mCall sem os)) :=
  pe_imp h fun σ H Q ⟨G, A, ρ, R, a⟩ => call_core R a.k2 fun G' H' vs ds d s o e q => hs G' H' vs ds d Q s o e q

/-! ### methods that change nothing -/
def SemM (c : Cf) (r : V → List V → Hp → VK → Prop) (sem : D → List D → Option D) : Prop := ∀ (G H : Hp) (x : V) (vs : List V) (d : D) (ds : List D) (e : D) (Q : VK), Same G H → Opr c G H x d → OprL c G H vs ds → sem d ds = some e → K1 c G H e Q → r x vs H Q
def isLst : D → Bool
  | .lst _ => true
  | _ => false
def isTup : D → Bool
  | .tup _ => true
  | _ => false
/-- the receiver is looked at twice: its class ahead of the arguments, its content behind them -/
def mMeth (is : D → Bool) (sem : D → List D → Option D) (o : Opn) (os : List Opn) : M D := o.pre.bind fun a => (rdM o a).bind fun d0 => if is d0 = true then (preL os).bind fun as => (rdM o a).bind fun d => (rdLM os as).bind fun ds => M.lift (sem d ds) else M.stuck
theorem pm_methL (hK : c.K = X.K) {e : Expr} {r : V → List V → Hp → VK → Prop} {sem : D → List D → Option D} {o : Opn} {os : List Opn} (hs : SemM c r sem) (h : PE X e (tBM X.K "list" r (tO c B W o) (tA c B W os))) : PE X e (tM c B W (mMeth isLst sem o os)) :=
  pe_imp h fun σ H Q ⟨G, A, ρ, R, a⟩ => by
    refine ⟨G, A, ρ, R, a.split.imp fun a0 ρ1 G1 H1 _ _ R1 a1 x fx => ?_⟩
    obtain ⟨d0, e0, a1⟩ := a1.rd
    cases d0 <;> first | exact a1.elim | skip
    rename_i ds0
    obtain ⟨p, xs, rfl, hp, _⟩ := (fx G1 H1 ρ1 _ (Same.refl _) R1 e0).lst R1.same
    refine ⟨.inl ⟨rfl, xs, by rw [← hK]; exact hp.sq⟩, G1, A, ρ1, R1, (show After c B W G1 A H1 σ (((preL os).bind _) ρ1) _ from a1).split.imp fun as ρ2 G2 H2 s2 _ R2 a2 vs fv => ?_⟩
    obtain ⟨d, e1, a2⟩ := a2.rd
    obtain ⟨ds, e2, a2⟩ := a2.rdL
    obtain ⟨er, e3, q⟩ := a2.k1.lift R2
    exact hs G2 H2 _ vs d ds er Q R2.same (fx G2 H2 ρ2 d s2 R2 e1) (fv G2 H2 ρ2 ds (Same.refl _) R2 e2) e3 q
theorem pm_methT (hK : c.K = X.K) {e : Expr} {r : V → List V → Hp → VK → Prop} {sem : D → List D → Option D} {o : Opn} {os : List Opn} (hs : SemM c r sem) (h : PE X e (tBMT X.K r (tO c B W o) (tA c B W os))) : PE X e (tM c B W (mMeth isTup sem o os)) :=
  pe_imp h fun σ H Q ⟨G, A, ρ, R, a⟩ => by
    refine ⟨G, A, ρ, R, a.split.imp fun a0 ρ1 G1 H1 _ _ R1 a1 x fx => ?_⟩
    obtain ⟨d0, e0, a1⟩ := a1.rd
    cases d0 <;> first | exact a1.elim | skip
    rename_i ds0
    obtain ⟨p, xs, rfl, hp, _⟩ := (fx G1 H1 ρ1 _ (Same.refl _) R1 e0).tup R1.same
    refine ⟨⟨p, xs, rfl, by rw [← hK]; exact hp⟩, G1, A, ρ1, R1, (show After c B W G1 A H1 σ (((preL os).bind _) ρ1) _ from a1).split.imp fun as ρ2 G2 H2 s2 _ R2 a2 vs fv => ?_⟩
    obtain ⟨d, e1, a2⟩ := a2.rd
    obtain ⟨ds, e2, a2⟩ := a2.rdL
    obtain ⟨er, e3, q⟩ := a2.k1.lift R2
    exact hs G2 H2 _ vs d ds er Q R2.same (fx G2 H2 ρ2 d s2 R2 e1) (fv G2 H2 ρ2 ds (Same.refl _) R2 e2) e3 q

/-! ### methods that change what a slot owns -/
def SemW (c : Cf) (r : V → List V → Hp → VK → Prop) (sem : D → List D → Option (D × D)) : Prop := ∀ (G H : Hp) (p : Addr) (vs : List V) (d : D) (ds : List D) (e d' : D) (Q : VK), Same G H → Own c G (H p) d → OprL c G H vs ds → sem d ds = some (e, d') →
  (∀ o v, Own c G (some o) d' → Rep c G v e → Q v (upd H p o)) → r (.ref p) vs H Q
def ownAt (i : Nat) : M D := fun ρ => match ρ[i]? with
  | some (.own d) => .ok d ρ
  | _ => .stuck
def setOwn (i : Nat) (d : D) : M Unit := fun ρ => .ok () (ρ.set i (.own d))
def mMethW (sem : D → List D → Option (D × D)) (i : Nat) (os : List Opn) : M D := (ownAt i).bind fun d0 => if isLst d0 = true then (preL os).bind fun as => (rdLM os as).bind fun ds => (ownAt i).bind fun d => (M.lift (sem d ds)).bind fun r => (setOwn i r.2).bind fun _ => M.pure r.1 else M.stuck
theorem After.ownAt {α : Type} {G H : Hp} {A : Addr → Prop} {σ : L2.St} {ρ : Cells} {i : Nat} {k : D → M α} {Q : α → Cells → Hp → Hp → Prop} (h : After c B W G A H σ (((ownAt i).bind k) ρ) Q) : ∃ d, ρ[i]? = some (.own d) ∧ After c B W G A H σ (k d ρ) Q := by
  unfold M.bind Fx.ownAt at h
  cases e : ρ[i]? with
  | none => rw [e] at h; exact h.elim
  | some cl =>
    rw [e] at h
    cases cl with
    | no => exact h.elim
    | dat d => exact h.elim
    | own d => exact ⟨d, rfl, h⟩
/-- an owned content is changed -/
theorem Rel.setOwn {G H : Hp} {A : Addr → Prop} {σ : L2.St} {ρ : Cells} (R : Rel c B G A H σ ρ) {i : Nat} {d d' : D} {p : Addr} {o : HO} (e : ρ[i]? = some (.own d)) (es : σ[i]? = some (some (.ref p))) (ho : Own c G (some o) d') : Rel c B G A (upd H p o) σ (ρ.set i (.own d')) ∧ Keep A G H G (upd H p o) ∧ Same G (upd H p o) := by
  obtain ⟨p', es', hA, hO⟩ := R.own i d e
  rw [es] at es'; cases es'
  obtain ⟨gp, u, hu⟩ := R.ownA p hA
  have hs : Same G (upd H p o) := fun b w q => by rw [upd_ne (ne_of_none q gp)]; exact R.same b w q
  have hi : i < ρ.length := (List.getElem?_eq_some_iff.mp e).1
  refine ⟨⟨hs, by rw [R.len, List.length_set], fun b hb => ?_, fun j x h => ?_, fun j x h => ?_, fun j k x y q hjk h1 h2 h3 h4 => ?_, fun q hq => ?_⟩, fun b w q hn => ?_, hs⟩
  · obtain ⟨h1, w, h2⟩ := R.ownA b hb
    refine ⟨h1, ?_⟩
    by_cases z : b = p
    · subst z; exact ⟨o, upd_same⟩
    · exact ⟨w, by rw [upd_ne z]; exact h2⟩
  · by_cases z : j = i
    · subst z; rw [List.getElem?_set_self hi] at h; cases h
    · rw [List.getElem?_set_ne (Ne.symm z)] at h; exact R.dat j x h
  · by_cases z : j = i
    · subst z
      rw [List.getElem?_set_self hi] at h; cases h
      exact ⟨p, es, hA, by rw [upd_same]; exact ho⟩
    · rw [List.getElem?_set_ne (Ne.symm z)] at h
      obtain ⟨q, h1, h2, h3⟩ := R.own j x h
      have ne : q ≠ p := fun w => R.dis j i x d p z h e (by rw [← w]; exact h1) es
      exact ⟨q, h1, h2, by rw [upd_ne ne]; exact h3⟩
  · have g : ∀ (j : Nat) (x : D), (ρ.set i (.own d'))[j]? = some (.own x) → ∃ y, ρ[j]? = some (.own y) := fun j x h => by
      by_cases z : j = i
      · subst z; exact ⟨d, e⟩
      · rw [List.getElem?_set_ne (Ne.symm z)] at h; exact ⟨x, h⟩
    obtain ⟨x', h1'⟩ := g j x h1
    obtain ⟨y', h2'⟩ := g k y h2
    exact R.dis j k x' y' q hjk h1' h2' h3 h4
  · obtain ⟨h1, h2, x, h3⟩ := R.byr q hq
    refine ⟨h1, h2, ?_⟩
    by_cases z : q.1 = i
    · exact ⟨d', by rw [z, List.getElem?_set_self hi]⟩
    · exact ⟨x, by rw [List.getElem?_set_ne (Ne.symm z)]; exact h3⟩
  · exact ⟨by rw [upd_ne (fun z => hn (by rw [z]; exact hA))]; exact q, rfl⟩
theorem pm_methW (i : Nat) {e : Expr} {r : V → List V → Hp → VK → Prop} {sem : D → List D → Option (D × D)} {os : List Opn} (hs : SemW c r sem) (h : PE X e (tBM X.K "list" r (tVar i) (tA c B W os))) : PE X e (tM c B W (mMethW sem i os)) :=
  pe_imp h fun σ H Q ⟨G, A, ρ, R, a⟩ => by
    obtain ⟨d0, e0, a1⟩ := After.ownAt a
    obtain ⟨p, es, hA, hO⟩ := R.own i d0 e0
    cases d0 <;> first | exact a1.elim | skip
    rename_i ds0
    obtain ⟨xs, hp, _⟩ := hO
    refine ⟨_, es, .inl ⟨rfl, xs, SqL.of hp⟩, G, A, ρ, R, (show After c B W G A H σ (((preL os).bind _) ρ) _ from a1).split.imp fun as ρ2 G2 H2 s2 _ R2 a2 vs fv => ?_⟩
    obtain ⟨ds, e2, a2⟩ := a2.rdL
    obtain ⟨d, e3, a2⟩ := a2.ownAt
    obtain ⟨⟨r1, d'⟩, e4, a2⟩ := a2.liftB
    obtain ⟨p', es', hA', hO'⟩ := R2.own i d e3
    rw [es] at es'; cases es'
    refine hs G2 H2 p vs d ds r1 d' Q R2.same hO' (fv G2 H2 ρ2 ds (Same.refl _) R2 e2) e4 fun o v ho hr => ?_
    obtain ⟨R3, k3, s3⟩ := R2.setOwn e3 es ho
    exact After.ok (After.of (Same.refl _) k3 a2) R3 v hr
theorem pe_slot (i : Nat) {x : Str} {pos : Pos} (hN : X.N[i]? = some x := by rfl) (hv : Vis X.env.scope x := by first | exact Or.inl rfl | exact Or.inr (Or.inl rfl) | exact Or.inr (Or.inr rfl)) (hd : (x == ("__debug__" : Str)) = false := by decide)
    (hcd : (x == ("__classdict__" : Str)) = false := by decide) : PE X (.Name x pos) (tVar i) := pe_var hN hv hd hcd

/-! ### displays -/
theorem seqM_length : ∀ {fs : List (M D)} {ρ ρ' : Cells} {ds : List D}, seqM fs ρ = .ok ds ρ' → ds.length = fs.length
  | [], ρ, ρ', ds, h => by cases h; rfl
  | f :: fs, ρ, ρ', ds, h => by
    unfold seqM M.bind at h
    cases e : f ρ with
    | stuck => rw [e] at h; cases h
    | exc x r => rw [e] at h; cases h
    | ok a ρ1 =>
      rw [e] at h
      have h' : ((seqM fs ρ1).andThen fun as => M.pure (a :: as)) = .ok ds ρ' := h
      cases e2 : seqM fs ρ1 with
      | stuck => rw [e2] at h'; cases h'
      | exc x r => rw [e2] at h'; cases h'
      | ok as ρ2 =>
        rw [e2] at h'
        cases h'
        rw [List.length_cons, List.length_cons, seqM_length e2]
def mTup (fs : List (M D)) : M D := (seqM fs).bind fun ds => M.pure (.tup ds)
def mLst (fs : List (M D)) : M D := (seqM fs).bind fun ds => M.pure (.lst ds)
theorem After.len {fs : List (M D)} {G H : Hp} {A : Addr → Prop} {σ : L2.St} {ρ : Cells} {Q : List D → Cells → Hp → Hp → Prop} (h : After c B W G A H σ (seqM fs ρ) Q) : After c B W G A H σ (seqM fs ρ) fun ds ρ' G' H' => ds.length = fs.length ∧ Q ds ρ' G' H' := by
  cases e : seqM fs ρ with
  | stuck => rw [e] at h; exact h
  | exc x r => rw [e] at h; exact h
  | ok a ρ1 => rw [e] at h; exact fun G' H' s k R => ⟨seqM_length e, h G' H' s k R⟩
theorem pm_tup {es : List Expr} {fs : List (M D)} {pos : Pos} {x1} (h : PA X es (tD c B W fs)) (hl : fs.length ≤ 1000 := by decide) : PE X (.Tuple es x1 pos) (tM c B W (mTup fs)) :=
  pe_imp (pe_tupN h) fun σ H Q ⟨G, A, ρ, R, a⟩ => by
    refine ⟨G, A, ρ, R, a.split.len.imp fun ds ρ1 G1 H1 _ _ R1 ⟨hz, a1⟩ vs r => ⟨?_, fun p its hp => ?_⟩⟩
    · rw [r.length, hz]; exact Nat.le_of_lt (small1000 hl)
    · exact K1.tup R1.same (After.k1 (f := M.pure (D.tup ds)) a1 |>.ok R1) hp r
theorem pf_lst {es : List Expr} {fs : List (M D)} {pos : Pos} (h : PA X es (tD c B W fs)) (hl : fs.length ≤ 1000 := by decide) : PE X (.List es pos) (tF c B W (mLst fs)) :=
  pe_imp (pe_lst h) fun σ H Q ⟨G, A, ρ, R, a⟩ => by
    refine ⟨G, A, ρ, R, a.split.len.imp fun ds ρ1 G1 H1 _ _ R1 ⟨hz, a1⟩ vs r => ⟨?_, fun p hp => ?_⟩⟩
    · rw [r.length, hz]; exact Nat.le_of_lt (small1000 hl)
    · exact K2.lst (After.ok a1 R1) hp r

/-! ### slices -/
def mPart : Option (M D) → M (Option Int)
  | none => M.pure none
  | some f => f.bind fun d => match d with
    | .int i => M.pure (some i)
    | _ => M.stuck
def tPt (c : Cf) (B : List (Nat × Addr)) (W : WX) (f : Option (M D)) : TO := fun σ H Q => ∃ G A ρ, Rel c B G A H σ ρ ∧ After c B W G A H σ (mPart f ρ) fun i _ _ H' => Q i H'
theorem pp_none : L2.PO X none (tPt c B W none) := ⟨fun pins s σ H Q I ⟨G, A, ρ, R, a⟩ => po_none.run pins s σ H Q I (After.ok a R)⟩
theorem pp_some {e : Expr} {f : M D} (h : PE X e (tM c B W f)) : L2.PO X (some e) (tPt c B W (some f)) := ⟨fun pins s σ H Q I ⟨G, A, ρ, R, a⟩ => (po_some h).run pins s σ H Q I (by
  refine ⟨G, A, ρ, R, (show After c B W G A H σ ((f.bind _) ρ) _ from a).split.imp fun d ρ1 G1 H1 _ _ R1 a1 v r => ?_⟩
  cases d <;> first | exact a1.elim | skip
  exact ⟨_, rep_int r, After.ok a1 R1⟩)⟩
def cutD (xs : List D) (lo hi : Option Int) : List D := (xs.drop (HT.sIx xs.length 0 lo)).take (HT.sIx xs.length xs.length hi - HT.sIx xs.length 0 lo)
def mSl (sem : D → Option Int → Option Int → Option D) (o : Opn) (lo hi : Option (M D)) : M D := o.pre.bind fun a => (mPart lo).bind fun l => (mPart hi).bind fun u => (rdM o a).bind fun d => M.lift (sem d l u)
def SemS (c : Cf) (r : V → Option Int → Option Int → Hp → VK → Prop) (sem : D → Option Int → Option Int → Option D) : Prop := ∀ (G H : Hp) (x : V) (d e : D) (l u : Option Int) (Q : VK), Same G H → Opr c G H x d → sem d l u = some e → K1 c G H e Q → r x l u H Q
def SemSF (c : Cf) (r : V → Option Int → Option Int → Hp → VK → Prop) (sem : D → Option Int → Option Int → Option D) : Prop := ∀ (G H : Hp) (x : V) (d e : D) (l u : Option Int) (Q : VK), Same G H → Opr c G H x d → sem d l u = some e → K2 c G H e Q → r x l u H Q
theorem sl_core {r : V → Option Int → Option Int → Hp → VK → Prop} {sem : D → Option Int → Option Int → Option D} {o : Opn} {lo hi : Option (M D)} {σ : L2.St} {H : Hp} {Q : VK} {Qd : D → Hp → Hp → Prop} {A : Addr → Prop} {G : Hp} {ρ : Cells} (R : Rel c B G A H σ ρ) (a : After c B W G A H σ (mSl sem o lo hi ρ) fun d _ G' H' => Qd d G' H')
    (k : ∀ G' H' x d e l u, Same G' H' → Opr c G' H' x d → sem d l u = some e → Qd e G' H' → r x l u H' Q) : tSl r (tO c B W o) (tPt c B W lo) (tPt c B W hi) σ H Q := by
  refine ⟨G, A, ρ, R, a.split.imp fun a0 ρ1 G1 H1 _ _ R1 a1 x fx => ?_⟩
  refine ⟨G1, A, ρ1, R1, a1.split.imp fun l ρ2 G2 H2 s2 _ R2 a2 => ?_⟩
  refine ⟨G2, A, ρ2, R2, a2.split.imp fun u ρ3 G3 H3 s3 _ R3 a3 => ?_⟩
  obtain ⟨d, e1, a3⟩ := a3.rd
  obtain ⟨e, e2, q⟩ := a3.lift R3
  exact k G3 H3 x d e l u R3.same (fx G3 H3 ρ3 d (s2.trans s3) R3 e1) e2 q
theorem pm_sl {e : Expr} {r : V → Option Int → Option Int → Hp → VK → Prop} {sem : D → Option Int → Option Int → Option D} {o : Opn} {lo hi : Option (M D)} (hs : SemS c r sem) (h : PE X e (tSl r (tO c B W o) (tPt c B W lo) (tPt c B W hi))) : PE X e (tM c B W (mSl sem o lo hi)) :=
  pe_imp h fun σ H Q ⟨G, A, ρ, R, a⟩ => sl_core R a.k1 fun G' H' x d e l u s o1 e1 q => hs G' H' x d e l u Q s o1 e1 q
theorem pf_sl {e : Expr} {r : V → Option Int → Option Int → Hp → VK → Prop} {sem : D → Option Int → Option Int → Option D} {o : Opn} {lo hi : Option (M D)} (hs : SemSF c r sem) (h : PE X e (tSl r (tO c B W o) (tPt c B W lo) (tPt c B W hi))) : PE X e (tF c B W (mSl sem o lo hi)) :=
  pe_imp h fun σ H Q ⟨G, A, ρ, R, a⟩ => sl_core R a.k2 fun G' H' x d e l u s o1 e1 q => hs G' H' x d e l u Q s o1 e1 q
end
end Fx
set_option Elab.async false
set_option linter.all false
set_option maxRecDepth 100000
set_option maxHeartbeats 4000000
/-! Fx4: the operations on data. -/
namespace Fx
open PySem L2
/-! ### arithmetic -/
def inR (i : Int) : Bool := decide (-(2 ^ 64) < i) && decide (i < 2 ^ 64)
def sAdd : D → D → Option D
  | .int a, .int b => some (.int (a + b))
  | .tup a, .tup b => if a.length + b.length ≤ 16777216 then some (.tup (a ++ b)) else none
  | .lst a, .lst b => if a.length + b.length ≤ 16777216 then some (.lst (a ++ b)) else none
  | _, _ => none
def sAddL : D → D → Option D
  | .lst a, .lst b => if a.length + b.length ≤ 16777216 then some (.lst (a ++ b)) else none
  | _, _ => none
def sSub : D → D → Option D
  | .int a, .int b => some (.int (a - b))
  | _, _ => none
def sMul : D → D → Option D
  | .int a, .int b => if (inR a || inR b) = true then some (.int (a * b)) else none
  | _, _ => none
def sMulL : D → D → Option D
  | .lst a, .int k => if k < 2 ^ 62 ∧ -(2 ^ 62) ≤ k ∧ a.length * k.toNat ≤ 16777216 then some (.lst (List.replicate k.toNat a).flatten) else none
  | _, _ => none
def sFdiv : D → D → Option D
  | .int a, .int b => if b ≠ 0 ∧ b.natAbs < 1073741824 then some (.int (a.fdiv b)) else none
  | _, _ => none
def sMod : D → D → Option D
  | .int a, .int b => if b ≠ 0 then some (.int (a.fmod b)) else none
  | _, _ => none
def sPow : D → D → Option D
  | .int a, .int b => if 0 ≤ b ∧ b ≤ 1000000 ∧ a.natAbs < 2 ^ 64 then some (.int (a ^ b.toNat)) else none
  | _, _ => none
def sLt : D → D → Option D
  | .int a, .int b => some (.bl (decide (a < b)))
  | _, _ => none
def sLe : D → D → Option D
  | .int a, .int b => some (.bl (decide (a ≤ b)))
  | _, _ => none
def sGt : D → D → Option D
  | .int a, .int b => some (.bl (decide (b < a)))
  | _, _ => none
def sGe : D → D → Option D
  | .int a, .int b => some (.bl (decide (b ≤ a)))
  | _, _ => none
def isNon : D → Bool
  | .non => true
  | _ => false
def sIsN : D → D → Option D
  | .raw _, _ => none
  | d, .non => some (.bl (isNon d))
  | _, _ => none
def sNotN : D → D → Option D
  | .raw _, _ => none
  | d, .non => some (.bl (!isNon d))
  | _, _ => none
def eqD (d e : D) : Bool := PyData.eqv (toPy d) (toPy e)
def sEq (d e : D) : Option D := if (plain d && plain e && decide (min (toPy d).depth (toPy e).depth ≤ 63)) = true then some (.bl (eqD d e)) else none
def sNe (d e : D) : Option D := if (plain d && plain e && decide (min (toPy d).depth (toPy e).depth ≤ 63)) = true then some (.bl (!eqD d e)) else none
def itemsOf : D → Option (List D)
  | .lst ds => some ds
  | .tup ds => some ds
  | _ => none
def inD (d : D) (ds : List D) : Bool := ds.any fun y => eqD y d
def sIn (d e : D) : Option D := (itemsOf e).bind fun ds => if (plain d && PyData.canLayAll0 (toPys ds) && decide (min (PyData.depthAll (toPys ds)) (toPy d).depth ≤ 63)) = true then some (.bl (inD d ds)) else none
def sNin (d e : D) : Option D := (itemsOf e).bind fun ds => if (plain d && PyData.canLayAll0 (toPys ds) && decide (min (PyData.depthAll (toPys ds)) (toPy d).depth ≤ 63)) = true then some (.bl (!inD d ds)) else none
def sIx : D → D → Option D
  | .lst ds, .int i => atI ds i
  | .tup ds, .int i => atI ds i
  | _, _ => none
def sCut : D → Option Int → Option Int → Option D
  | .lst ds, l, u => some (.lst (cutD ds l u))
  | .tup ds, l, u => some (.tup (cutD ds l u))
  | _, _, _ => none
def sCutL : D → Option Int → Option Int → Option D
  | .lst ds, l, u => some (.lst (cutD ds l u))
  | _, _, _ => none
/-! ### calls -/
def sLen : List D → Option D
  | [.lst ds] => some (.int ds.length)
  | [.tup ds] => some (.int ds.length)
  | _ => none
def sTuple : List D → Option D
  | [.lst ds] => some (.tup ds)
  | [.tup ds] => some (.tup ds)
  | _ => none
def sList : List D → Option D
  | [.lst ds] => some (.lst ds)
  | [.tup ds] => some (.lst ds)
  | _ => none
def sInt : List D → Option D
  | [.int i] => some (.int i)
  | [.bl b] => some (.int (if b then 1 else 0))
  | _ => none
def intsOf : List D → Option (List Int)
  | [] => some []
  | .int i :: ds => (intsOf ds).map fun is => i :: is
  | _ => none
def blsOf : List D → Option (List Bool)
  | [] => some []
  | .bl i :: ds => (blsOf ds).map fun is => i :: is
  | _ => none
def sSum : List D → Option D
  | [.lst ds] => (intsOf ds).map fun is => .int is.sum
  | _ => none
def sAll : List D → Option D
  | [.lst ds] => (blsOf ds).map fun is => .bl (is.all id)
  | _ => none
def maxI : List Int → Option Int
  | [] => none
  | a :: as => some (as.foldl (fun m x => if m < x then x else m) a)
def minI : List Int → Option Int
  | [] => none
  | a :: as => some (as.foldl (fun m x => if x < m then x else m) a)
def sMax : List D → Option D
  | [.lst ds] => (intsOf ds).bind fun is => (maxI is).map .int
  | [.int i, .int j] => some (.int (if j > i then j else i))
  | _ => none
def sMin : List D → Option D
  | [.lst ds] => (intsOf ds).bind fun is => (minI is).map .int
  | [.int i, .int j] => some (.int (if j < i then j else i))
  | _ => none
def insI (a : Int) : List Int → List Int
  | [] => [a]
  | b :: bs => if a ≤ b then a :: b :: bs else b :: insI a bs
def sortI : List Int → List Int
  | [] => []
  | a :: as => insI a (sortI as)
def sSorted : List D → Option D
  | [d] => (itemsOf d).bind fun ds => (intsOf ds).map fun is => .lst ((sortI is).map .int)
  | _ => none
/-- the built-in classes that isinstance is asked about -/
def tyName : D → Option String
  | .non => some "NoneType"
  | .bl _ => some "bool"
  | .int _ => some "int"
  | .str _ => some "str"
  | .tup _ => some "tuple"
  | .lst _ => some "list"
  | .dic _ _ => some "dict"
  | _ => none
def sIsi : List D → Option D
  | [d, .raw (.ty n)] => (tyName d).bind fun t => (kitB t n).map .bl
  | _ => none
/-! ### methods -/
def flatD : D → Bool
  | .non => true
  | .bl _ => true
  | .int _ => true
  | .str _ => true
  | _ => false
def eqF : D → D → Bool
  | .non, .non => true
  | .bl a, .bl b => a == b
  | .bl a, .int b => (if a then 1 else 0) == b
  | .int a, .bl b => a == (if b then 1 else 0)
  | .int a, .int b => a == b
  | .str a, .str b => a == b
  | _, _ => false
def idxF (d : D) : List D → Option Nat
  | [] => none
  | e :: es => if eqF e d = true then some 0 else (idxF d es).map (· + 1)
def sIndex (d : D) (ds : List D) : Option D := match ds with
  | [e] => (itemsOf d).bind fun xs => if (flatD e && xs.all flatD) = true then (idxF e xs).map fun j => .int (j : Nat) else none
  | _ => none
def sCount (d : D) (ds : List D) : Option D := match ds with
  | [e] => (itemsOf d).bind fun xs => if (flatD e && xs.all flatD) = true then some (.int (xs.countP fun z => eqF z e : Nat)) else none
  | _ => none
def wAppend : D → List D → Option (D × D)
  | .lst xs, [e] => if xs.length < 16777216 then some (.non, .lst (xs ++ [e])) else none
  | _, _ => none
def wExtend : D → List D → Option (D × D)
  | .lst xs, [.lst ys] => if xs.length + ys.length ≤ 16777216 then some (.non, .lst (xs ++ ys)) else none
  | _, _ => none
def wPopAt : D → List D → Option (D × D)
  | .lst xs, [.int i] => if -(2 ^ 62) ≤ i ∧ i < 2 ^ 62 then (seqIndex? i xs.length).bind fun k => (xs[k]?).map fun y => (y, .lst (xs.eraseIdx k)) else none
  | _, _ => none
def wPop : D → List D → Option (D × D)
  | .lst xs, [] => (xs[xs.length - 1]?).map fun y => (y, .lst xs.dropLast)
  | _, _ => none
def wRemove : D → List D → Option (D × D)
  | .lst xs, [.int k] => (intsOf xs).bind fun is => (is.findIdx? (· == k)).map fun j => (.non, .lst (xs.eraseIdx j))
  | _, _ => none

/-! ### they are what Python does -/
section
variable {c : Cf} {G H : Hp}
theorem sl : sizeLine = 16777216 := sizeLine_eq
theorem repI : ∀ {vs : List V} {ds : List D} {is : List Int}, RepL c G vs ds → intsOf ds = some is → vs = is.map V.int
  | _, _, _, .nil, h => by cases h; rfl
  | _, d :: ds, is, .cons r t, h => by
    cases d <;> first | (cases h; done) | skip
    unfold intsOf at h
    cases e : intsOf ds with
    | none => rw [e] at h; cases h
    | some js =>
      rw [e] at h
      cases h
      rw [rep_int r, repI t e]
      rfl
theorem repB : ∀ {vs : List V} {ds : List D} {is : List Bool}, RepL c G vs ds → blsOf ds = some is → vs = is.map V.bl
  | _, _, _, .nil, h => by cases h; rfl
  | _, d :: ds, is, .cons r t, h => by
    cases d <;> first | (cases h; done) | skip
    unfold blsOf at h
    cases e : blsOf ds with
    | none => rw [e] at h; cases h
    | some js =>
      rw [e] at h
      cases h
      rw [rep_bl r, repB t e]
      rfl
theorem repInts : ∀ is : List Int, RepL c G (is.map V.int) (is.map D.int)
  | [] => .nil
  | i :: is => .cons (.int i) (repInts is)
theorem rep_flat {v : V} {d : D} (r : Rep c G v d) (h : flatD d = true) : flatV v = true := by cases r <;> first | rfl | cases h
theorem rep_eqF {v w : V} {d e : D} (r : Rep c G v d) (q : Rep c G w e) (h : flatD d = true) (k : flatD e = true) : eqV v w = eqF d e := by
  cases r <;> first | (cases h; done) | (cases q <;> first | (cases k; done) | rfl)
theorem repL_flat : ∀ {vs : List V} {ds : List D}, RepL c G vs ds → ds.all flatD = true → vs.all flatV = true
  | _, _, .nil, _ => rfl
  | _, _, .cons r t, h => by
    rw [List.all_cons, Bool.and_eq_true] at h
    rw [List.all_cons, rep_flat r h.1, repL_flat t h.2]
    rfl
theorem rep_inj : ∀ {vs : List V} {ds : List D}, RepL c G vs ds → (vs = [] ↔ ds = [])
  | _, _, .nil => by simp
  | _, _, .cons _ _ => by simp
/-! operators -/
theorem or2 {X : Cx} {f : Value → Value → Sem Value} {r r' : R2} (h : OpR X f r) (h' : OpR X f r') : OpR X f (fun x y H Q => r x y H Q ∨ r' x y H Q) := fun pins s σ H x y v u Q I rx ry q => q.elim (h pins s σ H x y v u Q I rx ry) (h' pins s σ H x y v u Q I rx ry)
def rAdd (K : PySem.W.Frag) : R2 := fun x y H Q => (rI0 (fun i j => V.int (i + j)) x y H Q ∨ rCatN K x y H Q) ∨ rCatR K x y H Q
theorem op_addA {X : Cx} : OpR X (binaryOp .Add) (rAdd X.K) := or2 (or2 op_add op_catN) op_catR
theorem semAddL : Sem2F c (rCatR c.K) sAddL := fun G H x y d1 d2 d Q s a b e k => by
  cases d1 <;> cases d2 <;> first | (cases e; done) | skip
  rename_i xs ys
  simp only [sAddL] at e
  split at e
  · rename_i hz
    cases e
    obtain ⟨p, us, rfl, hp, r1⟩ := a.lst s
    obtain ⟨q, ws, rfl, hq, r2⟩ := b.lst s
    exact ⟨p, q, us, ws, rfl, rfl, hp, hq, by rw [r1.length, r2.length, sl]; exact hz, fun z hz => k.lst hz (r1.append r2)⟩
  · cases e
theorem semAdd : Sem2 c (rAdd c.K) sAdd := fun G H x y d1 d2 d Q s a b e k => by
  cases d1 <;> cases d2 <;> first | (cases e; done) | skip
  · cases e
    exact .inl (.inl ⟨_, _, a.int, b.int, k.flat s (.int _)⟩)
  · rename_i xs ys
    simp only [sAdd] at e
    split at e
    · rename_i hz
      cases e
      obtain ⟨p, us, rfl, hp, r1, R1⟩ := a.tup s
      obtain ⟨q, ws, rfl, hq, r2, R2⟩ := b.tup s
      refine .inl (.inr ⟨p, q, us, ws, rfl, rfl, hp.sq, hq.sq, by rw [r1.length, r2.length, sl]; exact hz, fun z => ?_, fun _ z => ?_, fun _ _ z its hz => ?_⟩)
      · have z' := (rep_inj r1).mp z
        subst z'
        exact k.flat s R2
      · have z' := (rep_inj r2).mp z
        subst z'
        exact k.flat s (by rw [List.append_nil]; exact R1)
      · exact k.tup s hz (r1.append r2)
    · cases e
  · exact .inr (semAddL G H x y _ _ d Q s a b e (k.to2 s))
theorem semSub : Sem2 c (rI0 fun i j => .int (i - j)) sSub := fun G H x y d1 d2 d Q s a b e k => by
  cases d1 <;> cases d2 <;> first | (cases e; done) | skip
  cases e
  exact ⟨_, _, a.int, b.int, k.flat s (.int _)⟩
theorem semMul : Sem2 c (rI CMul fun i j => .int (i * j)) sMul := fun G H x y d1 d2 d Q s a b e k => by
  cases d1 <;> cases d2 <;> first | (cases e; done) | skip
  simp only [sMul] at e
  split at e
  · rename_i h
    cases e
    unfold inR at h
    simp only [Bool.or_eq_true, Bool.and_eq_true, decide_eq_true_eq] at h
    exact ⟨_, _, a.int, b.int, h, k.flat s (.int _)⟩
  · cases e
theorem rep_flatten {vs : List V} {ds : List D} (r : RepL c G vs ds) : ∀ n : Nat, RepL c G (List.replicate n vs).flatten (List.replicate n ds).flatten
  | 0 => .nil
  | n + 1 => by rw [List.replicate_succ, List.replicate_succ, List.flatten_cons, List.flatten_cons]; exact r.append (rep_flatten r n)
theorem semMulL : Sem2F c (rRepR c.K) sMulL := fun G H x y d1 d2 d Q s a b e k => by
  cases d1 <;> cases d2 <;> first | (cases e; done) | skip
  simp only [sMulL] at e
  split at e
  · rename_i h
    cases e
    obtain ⟨p, us, rfl, hp, r1⟩ := a.lst s
    exact ⟨p, _, us, rfl, b.int, hp, by omega, by omega, by rw [r1.length, sl]; exact h.2.2, fun z hz => k.lst hz (rep_flatten r1 _)⟩
  · cases e
theorem semFdiv : Sem2 c (rI CDivN fun i j => .int (i.fdiv j)) sFdiv := fun G H x y d1 d2 d Q s a b e k => by
  cases d1 <;> cases d2 <;> first | (cases e; done) | skip
  simp only [sFdiv] at e
  split at e
  · rename_i h
    cases e
    exact ⟨_, _, a.int, b.int, h, k.flat s (.int _)⟩
  · cases e
theorem semMod : Sem2 c (rI (fun _ j => j ≠ 0) fun i j => .int (i.fmod j)) sMod := fun G H x y d1 d2 d Q s a b e k => by
  cases d1 <;> cases d2 <;> first | (cases e; done) | skip
  simp only [sMod] at e
  split at e
  · rename_i h
    cases e
    exact ⟨_, _, a.int, b.int, h, k.flat s (.int _)⟩
  · cases e
theorem semPow : Sem2 c (rI CPow fun i j => .int (i ^ j.toNat)) sPow := fun G H x y d1 d2 d Q s a b e k => by
  cases d1 <;> cases d2 <;> first | (cases e; done) | skip
  simp only [sPow] at e
  split at e
  · rename_i h
    cases e
    exact ⟨_, _, a.int, b.int, h, k.flat s (.int _)⟩
  · cases e
theorem semLt : Sem2 c (rI0 fun i j => .bl (decide (i < j))) sLt := fun G H x y d1 d2 d Q s a b e k => by
  cases d1 <;> cases d2 <;> first | (cases e; done) | skip
  cases e
  exact ⟨_, _, a.int, b.int, k.flat s (.bl _)⟩
theorem semLe : Sem2 c (rI0 fun i j => .bl (decide (i ≤ j))) sLe := fun G H x y d1 d2 d Q s a b e k => by
  cases d1 <;> cases d2 <;> first | (cases e; done) | skip
  cases e
  exact ⟨_, _, a.int, b.int, k.flat s (.bl _)⟩
theorem semGt : Sem2 c (rI0 fun i j => .bl (decide (j < i))) sGt := fun G H x y d1 d2 d Q s a b e k => by
  cases d1 <;> cases d2 <;> first | (cases e; done) | skip
  cases e
  exact ⟨_, _, a.int, b.int, k.flat s (.bl _)⟩
theorem semGe : Sem2 c (rI0 fun i j => .bl (decide (j ≤ i))) sGe := fun G H x y d1 d2 d Q s a b e k => by
  cases d1 <;> cases d2 <;> first | (cases e; done) | skip
  cases e
  exact ⟨_, _, a.int, b.int, k.flat s (.bl _)⟩
theorem opr_non {x : V} {d : D} (a : Opr c G H x d) (h : ∀ v, d ≠ .raw v) : decide (x = .non) = isNon d := by
  rcases a with a | ⟨p, rfl, a⟩
  · cases a <;> first | rfl | exact absurd rfl (h _)
  · cases d <;> first | exact a.elim | rfl
theorem opr_is_non {x : V} (a : Opr c G H x .non) : x = .non := by
  have r := a.rep fun o z => z
  cases r; rfl
theorem semIsN : Sem2 c (fun x y H Q => y = .non ∧ Q (.bl (decide (x = .non))) H) sIsN := fun G H x y d1 d2 d Q s a b e k => by
  cases d2 <;> cases d1 <;> first | (cases e; done) | skip
  all_goals
    cases e
    refine ⟨opr_is_non b, ?_⟩
    rw [opr_non a (fun v z => by cases z)]
    exact k.flat s (.bl _)
theorem semNotN : Sem2 c (fun x y H Q => y = .non ∧ Q (.bl (!decide (x = .non))) H) sNotN := fun G H x y d1 d2 d Q s a b e k => by
  cases d2 <;> cases d1 <;> first | (cases e; done) | skip
  all_goals
    cases e
    refine ⟨opr_is_non b, ?_⟩
    rw [opr_non a (fun v z => by cases z)]
    exact k.flat s (.bl _)
/-! equality and membership at any depth -/
def rEqN (K : PySem.W.Frag) (n : Bool) : R2 := fun x y H Q => ∃ d e, Dp K H x d ∧ Dp K H y e ∧ d.canLay0 = true ∧ e.canLay0 = true ∧ min d.depth e.depth ≤ 63 ∧ Q (.bl (n ^^ PyData.eqv d e)) H
theorem op_eqN {X : Cx} (hu : X.A.units + 64 < cLine) : OpR X (compareOp .Eq) (rEqN X.K false) := by
  intro pins s σ H x y v u Q I rx ry h
  obtain ⟨d, e, hd, he, sd, se, hz, q⟩ := h
  obtain ⟨as, r1⟩ := Dp.reads I d x v hd rx
  obtain ⟨bs, r2⟩ := Dp.reads I e y u he ry
  rw [Bool.false_xor] at q
  exact SeqAt.compareEq_reads r1 r2 sd se (by omega) ⟨.bl _, H, I, rfl, q⟩
theorem op_neN {X : Cx} (hu : X.A.units + 64 < cLine) : OpR X (compareOp .NotEq) (rEqN X.K true) := by
  intro pins s σ H x y v u Q I rx ry h
  obtain ⟨d, e, hd, he, sd, se, hz, q⟩ := h
  obtain ⟨as, r1⟩ := Dp.reads I d x v hd rx
  obtain ⟨bs, r2⟩ := Dp.reads I e y u he ry
  rw [Bool.true_xor] at q
  exact SeqAt.compareNe_reads r1 r2 sd se (by omega) ⟨.bl _, H, I, rfl, q⟩
theorem semEq : Sem2 c (rEqN c.K false) sEq := fun G H x y d1 d2 d Q s a b e k => by
  unfold sEq at e
  split at e
  · rename_i h
    cases e
    simp only [Bool.and_eq_true, decide_eq_true_eq] at h
    exact ⟨_, _, a.dp s h.1.1, b.dp s h.1.2, h.1.1, h.1.2, h.2, k.flat s (by rw [Bool.false_xor]; exact .bl _)⟩
  · cases e
theorem semNe : Sem2 c (rEqN c.K true) sNe := fun G H x y d1 d2 d Q s a b e k => by
  unfold sNe at e
  split at e
  · rename_i h
    cases e
    simp only [Bool.and_eq_true, decide_eq_true_eq] at h
    exact ⟨_, _, a.dp s h.1.1, b.dp s h.1.2, h.1.1, h.1.2, h.2, k.flat s (by rw [Bool.true_xor]; exact .bl _)⟩
  · cases e
def rInN (K : PySem.W.Frag) (n : Bool) : R2 := fun x y H Q => ∃ d e ds, Dp K H x d ∧ Dp K H y e ∧ (e = .list ds ∨ e = .tuple ds) ∧ d.canLay0 = true ∧ PyData.canLayAll0 ds = true ∧ min (PyData.depthAll ds) d.depth ≤ 63 ∧ Q (.bl (n ^^ ds.any fun z => PyData.eqv z d)) H
theorem op_inN {X : Cx} (hu : X.A.units + 64 < cLine) : OpR X (compareOp .In) (rInN X.K false) := by
  intro pins s σ H x y v u Q I rx ry h
  obtain ⟨d, e, ds, hd, he, hds, sd, se, hz, q⟩ := h
  obtain ⟨as, r1⟩ := Dp.reads I d x v hd rx
  rw [Bool.false_xor] at q
  rcases hds with rfl | rfl
  · obtain ⟨bs, r2⟩ := Dp.reads I _ y u he ry
    exact SeqAt.in_list_reads r2 r1 se sd (by omega) ⟨.bl _, H, I, rfl, q⟩
  · obtain ⟨bs, r2⟩ := Dp.reads I _ y u he ry
    exact SeqAt.in_tuple_reads r2 r1 se sd (by omega) ⟨.bl _, H, I, rfl, q⟩
theorem op_ninN {X : Cx} (hu : X.A.units + 64 < cLine) : OpR X (compareOp .NotIn) (rInN X.K true) := by
  intro pins s σ H x y v u Q I rx ry h
  obtain ⟨d, e, ds, hd, he, hds, sd, se, hz, q⟩ := h
  obtain ⟨as, r1⟩ := Dp.reads I d x v hd rx
  rw [Bool.true_xor] at q
  rcases hds with rfl | rfl
  · obtain ⟨bs, r2⟩ := Dp.reads I _ y u he ry
    exact SeqAt.notIn_list_reads r2 r1 se sd (by omega) ⟨.bl _, H, I, rfl, q⟩
  · obtain ⟨bs, r2⟩ := Dp.reads I _ y u he ry
    exact SeqAt.notIn_tuple_reads r2 r1 se sd (by omega) ⟨.bl _, H, I, rfl, q⟩
theorem any_toPys (d : PyData) : ∀ ds : List D, (toPys ds).any (fun z => PyData.eqv z d) = ds.any fun y => PyData.eqv (toPy y) d
  | [] => rfl
  | e :: es => by rw [toPys, List.any_cons, List.any_cons, any_toPys d es]
theorem items_dp {y : V} {e : D} {ds : List D} (s : Same G H) (b : Opr c G H y e) (h : itemsOf e = some ds) (p : PyData.canLayAll0 (toPys ds) = true) : ∃ f, Dp c.K H y f ∧ (f = .list (toPys ds) ∨ f = .tuple (toPys ds)) := by
  cases e <;> first | (cases h; done) | skip
  · cases h
    have q := b.dp s (by unfold plain; rw [toPy]; unfold PyData.canLay0; exact p)
    rw [toPy] at q
    exact ⟨_, q, .inr rfl⟩
  · cases h
    have q := b.dp s (by unfold plain; rw [toPy]; unfold PyData.canLay0; exact p)
    rw [toPy] at q
    exact ⟨_, q, .inl rfl⟩
theorem semIn : Sem2 c (rInN c.K false) sIn := fun G H x y d1 d2 d Q s a b e k => by
  unfold sIn at e
  cases hi : itemsOf d2 with
  | none => rw [hi] at e; cases e
  | some ds =>
    rw [hi, Option.bind_some] at e
    split at e
    · rename_i h
      cases e
      simp only [Bool.and_eq_true, decide_eq_true_eq] at h
      obtain ⟨f, q1, q2⟩ := items_dp s b hi h.1.2
      refine ⟨_, f, _, a.dp s h.1.1, q1, q2, h.1.1, h.1.2, h.2, ?_⟩
      rw [Bool.false_xor, any_toPys]
      exact k.flat s (.bl _)
    · cases e
theorem semNin : Sem2 c (rInN c.K true) sNin := fun G H x y d1 d2 d Q s a b e k => by
  unfold sNin at e
  cases hi : itemsOf d2 with
  | none => rw [hi] at e; cases e
  | some ds =>
    rw [hi, Option.bind_some] at e
    split at e
    · rename_i h
      cases e
      simp only [Bool.and_eq_true, decide_eq_true_eq] at h
      obtain ⟨f, q1, q2⟩ := items_dp s b hi h.1.2
      refine ⟨_, f, _, a.dp s h.1.1, q1, q2, h.1.1, h.1.2, h.2, ?_⟩
      rw [Bool.true_xor, any_toPys]
      exact k.flat s (.bl _)
    · cases e
/-! items, slices -/
theorem rep_atI {vs : List V} {ds : List D} {i : Int} {d : D} (r : RepL c G vs ds) (h : atI ds i = some d) : ∃ v, atI vs i = some v ∧ Rep c G v d := by
  unfold atI at h ⊢
  rw [r.length]
  cases e : ixN ds.length i with
  | none => rw [e] at h; cases h
  | some j =>
    rw [e, Option.bind_some] at h
    obtain ⟨v, h1, h2⟩ := r.get h
    exact ⟨v, by rw [Option.bind_some]; exact h1, h2⟩
def rIxN (K : PySem.W.Frag) : R2 := fun x y H Q => rIxL K x y H Q ∨ rIxT K x y H Q
theorem ix_N {X : Cx} : IxR X (rIxN X.K) := fun value slice pins s σ H x y v u Q I rx ry q hs => q.elim (fun q => ix_list value slice pins s σ H x y v u Q I rx ry q hs) (fun q => ix_tup value slice pins s σ H x y v u Q I rx ry q hs)
theorem semIx : Sem2 c (rIxN c.K) sIx := fun G H x y d1 d2 d Q s a b e k => by
  cases d1 <;> cases d2 <;> first | (cases e; done) | skip
  · obtain ⟨p, us, rfl, hp, r1, _⟩ := a.tup s
    obtain ⟨v, h1, h2⟩ := rep_atI r1 (show atI _ _ = some d from e)
    exact .inr ⟨p, us, _, v, rfl, b.int, hp.sq, h1, k.flat s h2⟩
  · obtain ⟨p, us, rfl, hp, r1⟩ := a.lst s
    obtain ⟨v, h1, h2⟩ := rep_atI r1 (show atI _ _ = some d from e)
    exact .inl ⟨p, us, _, v, rfl, b.int, hp.sq, h1, k.flat s h2⟩
theorem rep_cut {vs : List V} {ds : List D} (r : RepL c G vs ds) (l u : Option Int) : RepL c G (cutV vs l u) (cutD ds l u) := by
  unfold cutV cutD
  rw [r.length]
  exact (r.drop _).take _
theorem cut_whole {ds : List D} {l u : Option Int} (h : HT.sIx ds.length 0 l = 0 ∧ HT.sIx ds.length ds.length u = ds.length) : cutD ds l u = ds := by
  unfold cutD
  rw [h.1, h.2]
  simp
theorem semCutL : SemSF c (rSlL c.K) sCutL := fun G H x d e l u Q s a h k => by
  cases d <;> first | (cases h; done) | skip
  cases h
  obtain ⟨p, us, rfl, hp, r1⟩ := a.lst s
  exact ⟨p, us, rfl, hp.sq, fun q hq => k.lst hq (rep_cut r1 l u)⟩
theorem semCut : SemS c (fun x lo hi H Q => rSlL c.K x lo hi H Q ∨ rSlN c.K x lo hi H Q) sCut := fun G H x d e l u Q s a h k => by
  cases d <;> first | (cases h; done) | skip
  · cases h
    obtain ⟨p, us, rfl, hp, r1, R1⟩ := a.tup s
    refine .inr ⟨p, us, rfl, hp.sq, fun w => ?_, fun _ q its hq => k.tup s hq (rep_cut r1 l u)⟩
    rw [r1.length] at w
    rw [cut_whole w] at k
    exact k.flat s R1
  · exact .inl (semCutL G H x _ e l u Q s a h (k.to2 s))
theorem sl_N {X : Cx} : SlR X (fun x lo hi H Q => rSlL X.K x lo hi H Q ∨ rSlN X.K x lo hi H Q) := SlR.or sl_list sl_tupN
end
end Fx
set_option Elab.async false
set_option linter.all false
set_option maxRecDepth 100000
set_option maxHeartbeats 4000000
/-! FxS: sorted(t), t a tuple of ints. -/
namespace Fx
open PySem PyProof.Rows Srt
section
variable {prog : Program} {w : World} {A : Around} {E : Value → Shared → Prop} {s : Shared}
theorem collect_tup {l : Addr} {vs : List Value} {Q : List Value → Shared → Prop} (hl : s.heap.IsTuple l vs.toArray)
    (h : Q vs { s with heap := (s.heap.push (seqObj "list" #[] 0)).update s.heap.objs.size (Obj.mapSeq (· ++ vs.toArray)) }) (hsz : vs.length ≤ sizeLine := by size_fits) :
    wpAny (model prog w) A (collect (.ref l)) Q E s := by
  obtain ⟨o, ho, hc, n, hd⟩ := id hl
  unfold collect
  refine wpAny_bind (wpAny_runValue (codeAny_builtin entry_proto_collect' ?_))
  show wpAny _ _ (do again (.builtin "list.__iadd__" ⟨[← newList [], .ref l], []⟩)) _ _ s
  refine wpAny_bind (wpAny_newList (wpAny_pure ⟨Code.quiet_builtin _ (by decide +kernel), codeAny_builtin entry_list_iadd' ?_⟩))
  show wpAny _ _ (Builtin.List.listExtendWith (.ref s.heap.objs.size) (.ref l) (.ref s.heap.objs.size)) _ _ { s with heap := s.heap.push (seqObj "list" #[] 0) }
  unfold Builtin.List.listExtendWith
  have ho' : (s.heap.push (seqObj "list" #[] 0)).get? l = some o := Heap.get?_push_of_some _ ho
  refine wpAny_bind (wpAny_typeOf (T := "tuple") ⟨o, ho', hc⟩ ?_)
  have ht : (Value.type "tuple" == Value.type "tuple") = true := by rfl
  rw [if_pos (by rw [ht]; simp)]
  refine wpAny_bind (listItems_at ho' hd ?_)
  refine wpAny_bind (listItems_at (xs := #[]) (n := 0) (Heap.get?_push_size _ rfl) rfl ?_)
  rw [if_neg (by simp)]
  refine wpAny_bind (listUpdate_at (xs := #[]) (n := 0) (Heap.get?_push_size _ rfl) rfl ?_ (Nat.zero_le _) (by show (#[] ++ vs.toArray).size ≤ sizeLine + 1; simp only [Array.size_append, List.size_toArray, List.length_nil]; omega))
  refine wpAny_pure ?_
  show wpAny (model prog w) A (do
      let o ← load s.heap.objs.size
      match o.data with
      | .seq xs _ => pure xs.toList
      | _ => unsupported "internal:collect") Q E { s with heap := (s.heap.push (seqObj "list" #[] 0)).update s.heap.objs.size (Obj.mapSeq (· ++ vs.toArray)) }
  refine wpAny_bind (wpAny_load (get?_update_seq (Heap.get?_push_size _ rfl) _) ?_)
  show wpAny _ _ (pure ((#[] : Array Value) ++ vs.toArray).toList) Q E _
  rw [show ((#[] : Array Value) ++ vs.toArray).toList = vs by simp]
  exact wpAny_pure h
end
end Fx
namespace SrtO
open PySem PyProof.Rows Srt
section
variable {prog : Program} {w : World} {A : Around} {E : Value → Shared → Prop} {s : Shared}
theorem fx_sorted_tup {l : Addr} {vs : List Value} {ltv : Value → Value → Bool} {Q : Value → Shared → Prop} (O : Swo ltv) (hl : s.heap.IsTuple l vs.toArray) (hz : vs.length ≤ sizeLine)
    (hS : 2 ≤ vs.length → ∀ (h₁ : Heap) (a : Addr), h₁.get? a = some (seqObj "list" vs.toArray 0) → (∀ b o, s.heap.get? b = some o → b ≠ a ∧ h₁.get? b = some o) → SortableO prog w A.in1.in1 { s with heap := h₁ } a vs ltv)
    (h : ∀ out : List Value, Srtd ltv out → Stb ltv out vs → Q (.ref (s.heap.objs.size + 1)) { s with heap := sortedAll s.heap vs out.toArray }) :
    wpAny (model prog w) A (call (.builtin "sorted") [.ref l]) Q E s := by
  refine Calls.call_function_entry kind_sorted plain_sorted entry_sorted (args_sorted1 _) ?_
  unfold Builtin.«sorted»
  refine wpAny_bind (m := checkCount "sorted" 1 1 _) (wpAny_pure ?_)
  refine wpAny_bind (Fx.collect_tup hl ?_ hz)
  refine wpAny_bind (wpAny_newList ?_ hz)
  have hsz : ((s.heap.push (seqObj "list" #[] 0)).update s.heap.objs.size (Obj.mapSeq (· ++ vs.toArray))).objs.size = s.heap.objs.size + 1 := by
    rw [Heap.size_update, size_push']
  have hoL : (((s.heap.push (seqObj "list" #[] 0)).update s.heap.objs.size (Obj.mapSeq (· ++ vs.toArray))).push (seqObj "list" vs.toArray 0)).get? (s.heap.objs.size + 1) = some (seqObj "list" vs.toArray 0) := by
    rw [← hsz]; exact Heap.get?_push_size _ rfl
  have keep : ∀ b o, s.heap.get? b = some o → b ≠ s.heap.objs.size + 1 ∧ (((s.heap.push (seqObj "list" #[] 0)).update s.heap.objs.size (Obj.mapSeq (· ++ vs.toArray))).push (seqObj "list" vs.toArray 0)).get? b = some o := fun b o q => by
    have hlt : b < s.heap.objs.size := Heap.lt_size q
    refine ⟨Nat.ne_of_lt (Nat.lt_succ_of_lt hlt), Heap.get?_push_of_some _ ?_⟩
    rw [Heap.get?_update_ne _ _ _ _ (Nat.ne_of_lt hlt)]
    exact Heap.get?_push_of_some _ q
  show wpAny _ _ _ _ _ { s with heap := ((s.heap.push (seqObj "list" #[] 0)).update s.heap.objs.size (Obj.mapSeq (· ++ vs.toArray))).push (seqObj "list" vs.toArray 0) }
  rw [hsz]
  refine wpAny_bind (wpAny_holding (wpAny_call_entry slot_list_sort ⟨_, hoL, rfl⟩ entry_list_sort (list_sort_ord O hoL hz (fun h2 => hS h2 _ _ hoL keep) fun out hs hb => ⟨_, rfl, ?_⟩) (args_list_sort _)))
  exact wpAny_pure ⟨_, rfl, h out hs hb⟩
end
end SrtO
namespace L2
open PySem PySem.Spec PyProof.Rows
/-- sorted(x), a list or a tuple of ints -/
def fx_rSorted (K : PySem.W.Frag) : List V → Hp → VK → Prop := fun vs H Q => ∃ (a : Addr) (ns : List Int), vs = [V.ref a] ∧ (SqL K H a (ns.map V.int) ∨ SqT K H a (ns.map V.int)) ∧
  ∀ (ns' : List Int) (p : Addr), ns'.Perm ns → ns'.Pairwise (· ≤ ·) → H p = none → Q (.ref p) (upd H p (.lst (ns'.map V.int)))
theorem fx_cr_sorted {X : Cx} : CallR X (.builtin "sorted") (fx_rSorted X.K) := by
  intro pins s σ H vs us Q I r h
  obtain ⟨a, ns, rfl, hs | hs, q⟩ := h
  · exact cr_sortedI pins s σ H _ us Q I r ⟨a, ns, rfl, hs, q⟩
  · obtain ⟨its, rv, hl, hz⟩ := I.tuple hs
    rw [Vals.ref1 r]
    have hi := rv.ints
    refine SrtO.fx_sorted_tup SrtO.swo_int (show s.heap.IsTuple a its.toArray from hl) (by rw [← rv.length]; exact hz) (fun h2 h₁ a' _ _ => SrtO.ints_sortable hi h2) fun out h1 h2 => ?_
    obtain ⟨k1, k2, k3⟩ := SrtO.ints_out hi h1 h2
    obtain ⟨ep, he'⟩ := PyProof.Rows.sortedAll_at s.heap its out.toArray
    have hlen : ((out.map SrtO.iv).map V.int).length ≤ sizeLine := by
      rw [List.length_map, k2.length_eq]
      rw [List.length_map] at hz
      exact hz
    exact ⟨.ref _, upd H (s.heap.objs.size + 1) (.lst ((out.map SrtO.iv).map V.int)), I.laid (t' := s.toks) (fun _ _ => PyProof.Rows.sortedAll_old) (Nat.le_succ _) ⟨hlen, out, ep, vals_of_ints k1, he'⟩, rfl, q _ _ k2 k3 (I.hok.fresh (Nat.le_succ _))⟩
end L2
set_option Elab.async false
set_option linter.all false
set_option maxRecDepth 100000
set_option maxHeartbeats 4000000
/-! Fx5: built-in calls and methods on data. -/
namespace Fx
open PySem L2
section
variable {c : Cf} {G H : Hp}
theorem oprL1 {vs : List V} {d : D} (h : OprL c G H vs [d]) : ∃ v, vs = [v] ∧ Opr c G H v d := by
  cases h with
  | cons a t => cases t; exact ⟨_, rfl, a⟩
theorem oprL2 {vs : List V} {d e : D} (h : OprL c G H vs [d, e]) : ∃ v w, vs = [v, w] ∧ Opr c G H v d ∧ Opr c G H w e := by
  cases h with
  | cons a t =>
    cases t with
    | cons b u => cases u; exact ⟨_, _, rfl, a, b⟩
theorem oprL0 {vs : List V} (h : OprL c G H vs []) : vs = [] := by cases h; rfl
theorem orC {X : Cx} {f : Value} {r r' : List V → Hp → VK → Prop} (h : CallR X f r) (h' : CallR X f r') : CallR X f (fun xs H Q => r xs H Q ∨ r' xs H Q) := fun pins s σ H xs us Q I rx q => q.elim (h pins s σ H xs us Q I rx) (h' pins s σ H xs us Q I rx)
/-- the items of a list or tuple that is read -/
theorem opr_items {x : V} {d : D} {ds : List D} (s : Same G H) (a : Opr c G H x d) (h : itemsOf d = some ds) : ∃ p us, x = .ref p ∧ (SqL c.K H p us ∨ SqT c.K H p us) ∧ RepL c G us ds := by
  cases d <;> first | (cases h; done) | skip
  · cases h
    obtain ⟨p, us, rfl, hp, r1, _⟩ := a.tup s
    exact ⟨p, us, rfl, .inr hp.sq, r1⟩
  · cases h
    obtain ⟨p, us, rfl, hp, r1⟩ := a.lst s
    exact ⟨p, us, rfl, .inl hp.sq, r1⟩
theorem semLen : SemC c (fun xs H Q => ∃ p ys, xs = [.ref p] ∧ (SqL c.K H p ys ∨ SqT c.K H p ys) ∧ Q (.int ys.length) H) sLen := fun G H vs ds d Q s a e k => by
  match ds, e with
  | [.lst xs], e =>
    cases e
    obtain ⟨v, rfl, o⟩ := oprL1 a
    obtain ⟨p, us, rfl, hp, r⟩ := opr_items s o rfl
    exact ⟨p, us, rfl, hp, by rw [r.length]; exact k.flat s (.int _)⟩
  | [.tup xs], e =>
    cases e
    obtain ⟨v, rfl, o⟩ := oprL1 a
    obtain ⟨p, us, rfl, hp, r⟩ := opr_items s o rfl
    exact ⟨p, us, rfl, hp, by rw [r.length]; exact k.flat s (.int _)⟩
theorem semTuple : SemC c (rTupleOf c.K) sTuple := fun G H vs ds d Q s a e k => by
  match ds, e with
  | [.lst xs], e =>
    cases e
    obtain ⟨v, rfl, o⟩ := oprL1 a
    obtain ⟨p, us, rfl, hp, r⟩ := o.lst s
    exact ⟨p, us, rfl, .inl ⟨hp.sq, fun q its hq => k.tup s hq r⟩⟩
  | [.tup xs], e =>
    cases e
    obtain ⟨v, rfl, o⟩ := oprL1 a
    obtain ⟨p, us, rfl, hp, r, R⟩ := o.tup s
    exact ⟨p, us, rfl, .inr ⟨hp.sq, k.flat s R⟩⟩
theorem semList : SemCF c (fun xs H Q => ∃ p ys, xs = [.ref p] ∧ (SqL c.K H p ys ∨ SqT c.K H p ys) ∧ ∀ l, H l = none → Q (.ref l) (upd H l (.lst ys))) sList := fun G H vs ds d Q s a e k => by
  match ds, e with
  | [.lst xs], e =>
    cases e
    obtain ⟨v, rfl, o⟩ := oprL1 a
    obtain ⟨p, us, rfl, hp, r⟩ := opr_items s o rfl
    exact ⟨p, us, rfl, hp, fun q hq => k.lst hq r⟩
  | [.tup xs], e =>
    cases e
    obtain ⟨v, rfl, o⟩ := oprL1 a
    obtain ⟨p, us, rfl, hp, r⟩ := opr_items s o rfl
    exact ⟨p, us, rfl, hp, fun q hq => k.lst hq r⟩
theorem semInt : SemC c (fun xs H Q => (∃ i, xs = [.int i] ∧ Q (.int i) H) ∨ ∃ k, xs = [.bl k] ∧ Q (.int (if k then 1 else 0)) H) sInt := fun G H vs ds d Q s a e k => by
  match ds, e with
  | [.int i], e =>
    cases e
    obtain ⟨v, rfl, o⟩ := oprL1 a
    exact .inl ⟨i, by rw [o.int], k.flat s (.int _)⟩
  | [.bl i], e =>
    cases e
    obtain ⟨v, rfl, o⟩ := oprL1 a
    exact .inr ⟨i, by rw [o.bl], k.flat s (.int _)⟩
theorem semSum : SemC c (rSum c.K) sSum := fun G H vs ds d Q s a e k => by
  match ds, e with
  | [.lst xs], e =>
    simp only [sSum] at e
    cases hi : intsOf xs with
    | none => rw [hi] at e; cases e
    | some is =>
      rw [hi] at e
      cases e
      obtain ⟨v, rfl, o⟩ := oprL1 a
      obtain ⟨p, us, rfl, hp, r⟩ := o.lst s
      cases repI r hi
      exact ⟨p, is, rfl, hp.sq, k.flat s (.int _)⟩
theorem semAll : SemC c (rAll c.K) sAll := fun G H vs ds d Q s a e k => by
  match ds, e with
  | [.lst xs], e =>
    simp only [sAll] at e
    cases hi : blsOf xs with
    | none => rw [hi] at e; cases e
    | some is =>
      rw [hi] at e
      cases e
      obtain ⟨v, rfl, o⟩ := oprL1 a
      obtain ⟨p, us, rfl, hp, r⟩ := o.lst s
      cases repB r hi
      exact ⟨p, is, rfl, hp.sq, k.flat s (.bl _)⟩
theorem foldMax : ∀ (as : List Int) (a : Int), as.foldl (fun m x => if m < x then x else m) a ∈ a :: as ∧ ∀ y ∈ a :: as, y ≤ as.foldl (fun m x => if m < x then x else m) a
  | [], a => ⟨by simp, fun y hy => by simp at hy; subst hy; exact Int.le_refl _⟩
  | b :: bs, a => by
    rw [List.foldl_cons]
    obtain ⟨h1, h2⟩ := foldMax bs (if a < b then b else a)
    refine ⟨?_, fun y hy => ?_⟩
    · rcases List.mem_cons.mp h1 with h | h
      · rw [h]; split <;> simp
      · simp [h]
    · have h3 := h2 _ List.mem_cons_self
      rcases List.mem_cons.mp hy with h | h
      · subst h
        refine Int.le_trans ?_ h3
        split <;> omega
      · rcases List.mem_cons.mp h with h | h
        · subst h
          refine Int.le_trans ?_ h3
          split <;> omega
        · exact h2 y (List.mem_cons_of_mem _ h)
theorem foldMin : ∀ (as : List Int) (a : Int), as.foldl (fun m x => if x < m then x else m) a ∈ a :: as ∧ ∀ y ∈ a :: as, as.foldl (fun m x => if x < m then x else m) a ≤ y
  | [], a => ⟨by simp, fun y hy => by simp at hy; subst hy; exact Int.le_refl _⟩
  | b :: bs, a => by
    rw [List.foldl_cons]
    obtain ⟨h1, h2⟩ := foldMin bs (if b < a then b else a)
    refine ⟨?_, fun y hy => ?_⟩
    · rcases List.mem_cons.mp h1 with h | h
      · rw [h]; split <;> simp
      · simp [h]
    · have h3 := h2 _ List.mem_cons_self
      rcases List.mem_cons.mp hy with h | h
      · subst h
        refine Int.le_trans h3 ?_
        split <;> omega
      · rcases List.mem_cons.mp h with h | h
        · subst h
          refine Int.le_trans h3 ?_
          split <;> omega
        · exact h2 y (List.mem_cons_of_mem _ h)
theorem maxI_spec {is : List Int} {m : Int} (h : maxI is = some m) : m ∈ is ∧ ∀ y ∈ is, y ≤ m := by
  cases is with
  | nil => cases h
  | cons a as => cases h; exact foldMax as a
theorem minI_spec {is : List Int} {m : Int} (h : minI is = some m) : m ∈ is ∧ ∀ y ∈ is, m ≤ y := by
  cases is with
  | nil => cases h
  | cons a as => cases h; exact foldMin as a
def rMx (K : PySem.W.Frag) : List V → Hp → VK → Prop := fun xs H Q => rMax K xs H Q ∨ ∃ i j, xs = [.int i, .int j] ∧ Q (.int (if j > i then j else i)) H
def rMn (K : PySem.W.Frag) : List V → Hp → VK → Prop := fun xs H Q => rMin K xs H Q ∨ ∃ i j, xs = [.int i, .int j] ∧ Q (.int (if j < i then j else i)) H
theorem call_mx {X : Cx} (hc : X.calm = true) : CallR X (.builtin "max") (rMx X.K) := orC (cr_max hc) (call_max2 hc)
theorem call_mn {X : Cx} (hc : X.calm = true) : CallR X (.builtin "min") (rMn X.K) := orC (cr_min hc) (call_min2 hc)
theorem semMax : SemC c (rMx c.K) sMax := fun G H vs ds d Q s a e k => by
  match ds, e with
  | [.lst xs], e =>
    simp only [sMax] at e
    cases hi : intsOf xs with
    | none => rw [hi] at e; cases e
    | some is =>
      rw [hi, Option.bind_some] at e
      cases hm : maxI is with
      | none => rw [hm] at e; cases e
      | some m =>
        rw [hm] at e
        cases e
        obtain ⟨v, rfl, o⟩ := oprL1 a
        obtain ⟨p, us, rfl, hp, r⟩ := o.lst s
        cases repI r hi
        obtain ⟨h1, h2⟩ := maxI_spec hm
        refine .inl ⟨p, is, rfl, hp.sq, List.length_pos_of_mem h1, fun m' h3 h4 => ?_⟩
        have : m' = m := by have := h2 m' h3; have := h4 m h1; omega
        rw [this]
        exact k.flat s (.int _)
  | [.int i, .int j], e =>
    cases e
    obtain ⟨v, w, rfl, o, o'⟩ := oprL2 a
    exact .inr ⟨i, j, by rw [o.int, o'.int], k.flat s (.int _)⟩
theorem semMin : SemC c (rMn c.K) sMin := fun G H vs ds d Q s a e k => by
  match ds, e with
  | [.lst xs], e =>
    simp only [sMin] at e
    cases hi : intsOf xs with
    | none => rw [hi] at e; cases e
    | some is =>
      rw [hi, Option.bind_some] at e
      cases hm : minI is with
      | none => rw [hm] at e; cases e
      | some m =>
        rw [hm] at e
        cases e
        obtain ⟨v, rfl, o⟩ := oprL1 a
        obtain ⟨p, us, rfl, hp, r⟩ := o.lst s
        cases repI r hi
        obtain ⟨h1, h2⟩ := minI_spec hm
        refine .inl ⟨p, is, rfl, hp.sq, List.length_pos_of_mem h1, fun m' h3 h4 => ?_⟩
        have : m' = m := by have := h2 m' h3; have := h4 m h1; omega
        rw [this]
        exact k.flat s (.int _)
  | [.int i, .int j], e =>
    cases e
    obtain ⟨v, w, rfl, o, o'⟩ := oprL2 a
    exact .inr ⟨i, j, by rw [o.int, o'.int], k.flat s (.int _)⟩
/-! sorted -/
theorem insI_perm (a : Int) : ∀ l, (insI a l).Perm (a :: l)
  | [] => .refl _
  | b :: bs => by
    unfold insI
    split
    · exact .refl _
    · exact ((insI_perm a bs).cons b).trans (.swap a b bs)
theorem sortI_perm : ∀ l, (sortI l).Perm l
  | [] => .refl _
  | a :: as => by unfold sortI; exact (insI_perm a _).trans ((sortI_perm as).cons a)
theorem insI_sorted (a : Int) : ∀ l : List Int, l.Pairwise (· ≤ ·) → (insI a l).Pairwise (· ≤ ·)
  | [], _ => by unfold insI; exact List.pairwise_singleton _ _
  | b :: bs, h => by
    obtain ⟨h1, h2⟩ := List.pairwise_cons.mp h
    unfold insI
    split
    · rename_i hab
      refine List.pairwise_cons.mpr ⟨fun y hy => ?_, h⟩
      rcases List.mem_cons.mp hy with e | e
      · subst e; exact hab
      · exact Int.le_trans hab (h1 y e)
    · rename_i hab
      refine List.pairwise_cons.mpr ⟨fun y hy => ?_, insI_sorted a bs h2⟩
      rcases List.mem_cons.mp ((insI_perm a bs).mem_iff.mp hy) with e | e
      · subst e; omega
      · exact h1 y e
theorem sortI_sorted : ∀ l : List Int, (sortI l).Pairwise (· ≤ ·)
  | [] => .nil
  | a :: as => by unfold sortI; exact insI_sorted a _ (sortI_sorted as)
theorem sorted_unique : ∀ {l m : List Int}, l.Perm m → l.Pairwise (· ≤ ·) → m.Pairwise (· ≤ ·) → l = m
  | [], m, p, _, _ => by rw [List.nil_perm.mp p]
  | a :: as, [], p, _, _ => by have := p.length_eq; simp at this
  | a :: as, b :: bs, p, h1, h2 => by
    obtain ⟨k1, k2⟩ := List.pairwise_cons.mp h1
    obtain ⟨k3, k4⟩ := List.pairwise_cons.mp h2
    have e : a = b := by
      have m1 : b ∈ a :: as := p.mem_iff.mpr List.mem_cons_self
      have m2 : a ∈ b :: bs := p.mem_iff.mp List.mem_cons_self
      rcases List.mem_cons.mp m1 with e | e
      · exact e.symm
      · rcases List.mem_cons.mp m2 with e' | e'
        · exact e'
        · have := k1 b e; have := k3 a e'; omega
    subst e
    rw [sorted_unique (List.Perm.cons_inv p) k2 k4]
theorem semSorted : SemCF c (fx_rSorted c.K) sSorted := fun G H vs ds d Q s a e k => by
  match ds, e with
  | [dd], e =>
    simp only [sSorted] at e
    cases hx : itemsOf dd with
    | none => rw [hx] at e; cases e
    | some xs =>
      rw [hx] at e
      have e : ((intsOf xs).map fun is => D.lst ((sortI is).map .int)) = some d := e
      cases hi : intsOf xs with
      | none => rw [hi] at e; cases e
      | some is =>
        rw [hi] at e
        cases e
        obtain ⟨v, rfl, o⟩ := oprL1 a
        obtain ⟨p, us, rfl, hp, r⟩ := opr_items s o hx
        cases repI r hi
        refine ⟨p, is, rfl, hp, fun ns' q pm so hq => ?_⟩
        rw [sorted_unique (pm.trans (sortI_perm is).symm) so (sortI_sorted is)]
        exact k.lst hq (repInts _)
theorem opr_ty {x : V} {d : D} {t : String} (s : Same G H) (a : Opr c G H x d) (h : tyName d = some t) : TyX c.K H x (.type t) := by
  rcases a with a | ⟨p, rfl, a⟩
  · cases a <;> first | (cases h; done) | skip
    · cases h; exact .base .non
    · cases h; exact .base (.bl _)
    · cases h; exact .base (.int _)
    · cases h; exact .base (.str _)
    · rename_i q r
      cases h
      rcases q.mono s with ⟨o, q, _⟩ | ⟨o, its, n, h1, h2, _⟩
      · exact .fTuple q
      · exact .kTuple h1 h2
    · rename_i q r
      cases h
      rcases q.mono s with (q | ⟨o, q⟩) | ⟨its, n, q, _⟩
      · exact .base (.lst q)
      · exact .base (.frz q)
      · exact .kList q rfl
    · rename_i q l r
      cases h
      rcases same_rd s q with q | ⟨o, q⟩
      · exact .base (.dK q)
      · exact .fDict q
  · cases d <;> first | exact a.elim | (cases h; done) | skip
    · cases h
      obtain ⟨xs, e, _⟩ := a
      exact .base (.lst e)
    · cases h
      obtain ⟨xs, e, _⟩ := a
      exact .base (.dK e)
theorem semIsi : SemC c (rIsi c.K) sIsi := fun G H vs ds d Q s a e k => by
  match ds, e with
  | [x, .raw (.ty n)], e =>
    simp only [sIsi] at e
    cases ht : tyName x with
    | none => rw [ht] at e; cases e
    | some t =>
      rw [ht, Option.bind_some] at e
      cases hk : kitB t n with
      | none => rw [hk] at e; cases e
      | some b =>
        rw [hk] at e
        cases e
        obtain ⟨v, w, rfl, o, o'⟩ := oprL2 a
        have ew : w = .ty n := by
          have r := o'.rep fun o z => z
          cases r; rfl
        exact ⟨v, w, _, _, b, rfl, by rw [ew]; exact .ty n, opr_ty s o ht, kit_ty hk, k.flat s (.bl _)⟩
/-! index, count -/
theorem idxF_spec {e : D} : ∀ {xs : List D} {j : Nat}, idxF e xs = some j → ∃ z, xs[j]? = some z ∧ eqF z e = true ∧ ∀ m z', m < j → xs[m]? = some z' → eqF z' e = false
  | x :: xs, j, h => by
    unfold idxF at h
    split at h
    · rename_i hx
      cases h
      exact ⟨x, rfl, hx, fun m z' hm => absurd hm (Nat.not_lt_zero _)⟩
    · rename_i hx
      cases hj : idxF e xs with
      | none => rw [hj] at h; cases h
      | some i =>
        rw [hj] at h
        cases h
        obtain ⟨z, h1, h2, h3⟩ := idxF_spec hj
        refine ⟨z, h1, h2, fun m z' hm hz => ?_⟩
        cases m with
        | zero =>
          cases hz
          exact Bool.eq_false_iff.mpr hx
        | succ m => exact h3 m z' (Nat.lt_of_succ_lt_succ hm) hz
theorem idx_core {us : List V} {xs : List D} {w : V} {e : D} {j : Nat} (r : RepL c G us xs) (rw' : Rep c G w e) (fe : flatD e = true) (fx : xs.all flatD = true) (h : idxF e xs = some j) :
    ∃ z, us[j]? = some z ∧ eqV z w = true ∧ ∀ (m : Nat) (z' : V), m < j → us[m]? = some z' → eqV z' w = false := by
  obtain ⟨z, h1, h2, h3⟩ := idxF_spec h
  obtain ⟨v, e1, r1⟩ := r.get h1
  refine ⟨v, e1, ?_, fun m z' hm hz => ?_⟩
  · rw [rep_eqF r1 rw' (List.all_eq_true.mp fx z (List.mem_of_getElem? h1)) fe]; exact h2
  · obtain ⟨d, e2, r2⟩ := r.getV hz
    rw [rep_eqF r2 rw' (List.all_eq_true.mp fx d (List.mem_of_getElem? e2)) fe]
    exact h3 m d hm e2
theorem opr_flat {v : V} {e : D} (o : Opr c G H v e) (f : flatD e = true) : Rep c G v e := o.rep fun u z => by cases e <;> first | exact z.elim | cases f
def sTix : D → List D → Option D
  | .tup xs, ds => sIndex (.tup xs) ds
  | _, _ => none
def sLix : D → List D → Option D
  | .lst xs, ds => sIndex (.lst xs) ds
  | _, _ => none
def sTcount : D → List D → Option D
  | .tup xs, ds => sCount (.tup xs) ds
  | _, _ => none
theorem semTix : SemM c (rTix c.K) sTix := fun G H x vs d ds e Q s a b h k => by
  cases d <;> first | (cases h; done) | skip
  rename_i xs
  replace h : sIndex (.tup xs) ds = some e := h
  match ds, h with
  | [y], h =>
    simp only [sIndex, itemsOf, Option.bind_some] at h
    split at h
    · rename_i hf
      rw [Bool.and_eq_true] at hf
      cases hj : idxF y xs with
      | none => rw [hj] at h; cases h
      | some j =>
        rw [hj] at h
        cases h
        obtain ⟨p, us, rfl, hp, r, _⟩ := a.tup s
        obtain ⟨w, rfl, ow⟩ := oprL1 b
        have rw' := opr_flat ow hf.1
        obtain ⟨z, h1, h2, h3⟩ := idx_core r rw' hf.1 hf.2 hj
        exact ⟨p, us, w, j, z, rfl, rfl, hp.sq, rep_flat rw' hf.1, repL_flat r hf.2, h1, h2, h3, k.flat s (.int _)⟩
    · cases h
theorem semLix : SemM c (rIndex c.K) sLix := fun G H x vs d ds e Q s a b h k => by
  cases d <;> first | (cases h; done) | skip
  rename_i xs
  replace h : sIndex (.lst xs) ds = some e := h
  match ds, h with
  | [y], h =>
    simp only [sIndex, itemsOf, Option.bind_some] at h
    split at h
    · rename_i hf
      rw [Bool.and_eq_true] at hf
      cases hj : idxF y xs with
      | none => rw [hj] at h; cases h
      | some j =>
        rw [hj] at h
        cases h
        obtain ⟨p, us, rfl, hp, r⟩ := a.lst s
        obtain ⟨w, rfl, ow⟩ := oprL1 b
        have rw' := opr_flat ow hf.1
        obtain ⟨z, h1, h2, h3⟩ := idx_core r rw' hf.1 hf.2 hj
        exact ⟨p, us, w, j, z, rfl, rfl, hp.sq, rep_flat rw' hf.1, repL_flat r hf.2, h1, h2, h3, k.flat s (.int _)⟩
    · cases h
theorem count_core {us : List V} {xs : List D} {w : V} {e : D} (r : RepL c G us xs) (rw' : Rep c G w e) (fe : flatD e = true) (fx : xs.all flatD = true) : us.countP (fun z => eqV z w) = xs.countP fun z => eqF z e := by
  induction us generalizing xs with
  | nil => cases r; rfl
  | cons u us ih =>
    cases r with
    | cons h t =>
      rw [List.all_cons, Bool.and_eq_true] at fx
      rw [List.countP_cons, List.countP_cons, ih t fx.2, rep_eqF h rw' fx.1 fe]
theorem semTcount : SemM c (rTcount c.K) sTcount := fun G H x vs d ds e Q s a b h k => by
  cases d <;> first | (cases h; done) | skip
  rename_i xs
  replace h : sCount (.tup xs) ds = some e := h
  match ds, h with
  | [y], h =>
    simp only [sCount, itemsOf, Option.bind_some] at h
    split at h
    · rename_i hf
      rw [Bool.and_eq_true] at hf
      cases h
      obtain ⟨p, us, rfl, hp, r, _⟩ := a.tup s
      obtain ⟨w, rfl, ow⟩ := oprL1 b
      have rw' := opr_flat ow hf.1
      exact ⟨p, us, w, rfl, rfl, hp.sq, rep_flat rw' hf.1, repL_flat r hf.2, by rw [count_core r rw' hf.1 hf.2]; exact k.flat s (.int _)⟩
    · cases h
/-! methods that change a list -/
def SemWR (c : Cf) (r : V → List V → Hp → VK → Prop) (sem : D → List D → Option (D × D)) : Prop := ∀ (G H : Hp) (p : Addr) (vs : List V) (d : D) (ds : List D) (e d' : D) (Q : VK), Same G H → Own c G (H p) d → RepL c G vs ds → sem d ds = some (e, d') →
  (∀ o v, Own c G (some o) d' → Rep c G v e → Q v (upd H p o)) → r (.ref p) vs H Q
theorem repL1 {vs : List V} {d : D} (h : RepL c G vs [d]) : ∃ v, vs = [v] ∧ Rep c G v d := by
  cases h with
  | cons a t => cases t; exact ⟨_, rfl, a⟩
theorem repL0 {vs : List V} (h : RepL c G vs []) : vs = [] := by cases h; rfl
theorem semAppend : SemWR c rAppend wAppend := fun G H p vs d ds e d' Q s a b h k => by
  match d, ds, h with
  | .lst xs, [y], h =>
    simp only [wAppend] at h
    split at h
    · rename_i hz
      cases h
      obtain ⟨us, hu, r⟩ := a
      obtain ⟨w, rfl, ow⟩ := repL1 b
      exact ⟨p, us, w, rfl, rfl, hu, by rw [r.length, sl]; exact hz, k _ _ ⟨_, rfl, r.append (.one ow)⟩ .non⟩
    · cases h
theorem semExtend : SemW c (rExtR c.K) wExtend := fun G H p vs d ds e d' Q s a b h k => by
  match d, ds, h with
  | .lst xs, [.lst ys], h =>
    simp only [wExtend] at h
    split at h
    · rename_i hz
      cases h
      obtain ⟨us, hu, r⟩ := a
      obtain ⟨w, rfl, ow⟩ := oprL1 b
      obtain ⟨q, ws, rfl, hq, r2⟩ := ow.lst s
      exact ⟨p, q, us, ws, rfl, rfl, hu, hq, by rw [r.length, r2.length, sl]; exact hz, k _ _ ⟨_, rfl, r.append r2⟩ .non⟩
    · cases h
theorem semPopAt : SemWR c rPopAt wPopAt := fun G H p vs d ds e d' Q s a b h k => by
  match d, ds, h with
  | .lst xs, [.int i], h =>
    simp only [wPopAt] at h
    split at h
    · rename_i hz
      cases hk : seqIndex? i xs.length with
      | none => rw [hk] at h; cases h
      | some j =>
        rw [hk, Option.bind_some] at h
        cases hy : xs[j]? with
        | none => rw [hy] at h; cases h
        | some y =>
          rw [hy] at h
          cases h
          obtain ⟨us, hu, r⟩ := a
          obtain ⟨w, rfl, ow⟩ := repL1 b
          obtain ⟨v, h1, h2⟩ := r.get hy
          exact ⟨p, us, i, j, v, rfl, by rw [rep_int ow], hu, by omega, by omega, by rw [r.length]; exact hk, h1, k _ _ ⟨_, rfl, r.eraseIdx j⟩ h2⟩
    · cases h
theorem repL_dropLast {us : List V} {xs : List D} (r : RepL c G us xs) : RepL c G us.dropLast xs.dropLast := by
  rw [List.dropLast_eq_take, List.dropLast_eq_take, r.length]
  exact r.take _
theorem semPop : SemWR c rPop wPop := fun G H p vs d ds e d' Q s a b h k => by
  match d, ds, h with
  | .lst xs, [], h =>
    simp only [wPop] at h
    cases hy : xs[xs.length - 1]? with
    | none => rw [hy] at h; cases h
    | some y =>
      rw [hy] at h
      cases h
      obtain ⟨us, hu, r⟩ := a
      cases repL0 b
      obtain ⟨v, h1, h2⟩ := r.get hy
      exact ⟨p, us, v, rfl, rfl, hu, by rw [r.length]; exact h1, k _ _ ⟨_, rfl, repL_dropLast r⟩ h2⟩
theorem intsOf_some : ∀ {ds : List D} {is : List Int}, intsOf ds = some is → ds = is.map D.int
  | [], _, h => by cases h; rfl
  | d :: ds, is, h => by
    cases d <;> first | (cases h; done) | skip
    unfold intsOf at h
    cases e : intsOf ds with
    | none => rw [e] at h; cases h
    | some js =>
      rw [e] at h
      cases h
      rw [intsOf_some e]
      rfl
theorem intsOf_map : ∀ is : List Int, intsOf (is.map D.int) = some is
  | [] => rfl
  | i :: is => by
    show (intsOf (is.map D.int)).map _ = _
    rw [intsOf_map is]
    rfl
theorem erase_mapD : ∀ (l : List Int) (j : Nat), (l.map D.int).eraseIdx j = (l.eraseIdx j).map D.int
  | [], _ => rfl
  | _ :: _, 0 => rfl
  | a :: as, j + 1 => by
    show D.int a :: (as.map D.int).eraseIdx j = D.int a :: (as.eraseIdx j).map D.int
    rw [erase_mapD as j]
theorem semRemove : SemWR c rRemI wRemove := fun G H p vs d ds e d' Q s a b h k => by
  match d, ds, h with
  | .lst xs, [.int i], h =>
    simp only [wRemove] at h
    cases hi : intsOf xs with
    | none => rw [hi] at h; cases h
    | some is =>
      rw [hi, Option.bind_some] at h
      cases hj : is.findIdx? (· == i) with
      | none => rw [hj] at h; cases h
      | some j =>
        rw [hj] at h
        cases h
        obtain ⟨us, hu, r⟩ := a
        obtain ⟨w, rfl, ow⟩ := repL1 b
        have es := repI r hi
        subst es
        obtain ⟨hlt, he, hno⟩ := List.findIdx?_eq_some_iff_getElem.mp hj
        refine ⟨p, is, i, j, rfl, by rw [rep_int ow], hu, ?_, fun m hm hz => ?_, ?_⟩
        · rw [List.getElem?_eq_getElem hlt]
          exact congrArg some (eq_of_beq he)
        · have hlm : m < is.length := Nat.lt_trans hm hlt
          rw [List.getElem?_eq_getElem hlm] at hz
          exact hno m hm (by rw [Option.some.inj hz]; exact beq_self_eq_true i)
        · refine k _ _ ⟨_, rfl, ?_⟩ .non
          rw [intsOf_some hi]
          rw [erase_mapD]
          exact repInts _
end
section
variable {c : Cf} {B : List (Nat × Addr)} {W : WX} {X : Cx}
def mMethWR (sem : D → List D → Option (D × D)) (i : Nat) (fs : List (M D)) : M D := (ownAt i).bind fun d0 => if isLst d0 = true then (seqM fs).bind fun ds => (ownAt i).bind fun d => (M.lift (sem d ds)).bind fun r => (setOwn i r.2).bind fun _ => M.pure r.1 else M.stuck
theorem pm_methWR (i : Nat) {e : Expr} {r : V → List V → Hp → VK → Prop} {sem : D → List D → Option (D × D)} {fs : List (M D)} (hs : SemWR c r sem) (h : PE X e (tBM X.K "list" r (tVar i) (tD c B W fs))) : PE X e (tM c B W (mMethWR sem i fs)) :=
  pe_imp h fun σ H Q ⟨G, A, ρ, R, a⟩ => by
    obtain ⟨d0, e0, a1⟩ := After.ownAt a
    obtain ⟨p, es, hA, hO⟩ := R.own i d0 e0
    cases d0 <;> first | exact a1.elim | skip
    rename_i ds0
    obtain ⟨xs, hp, _⟩ := hO
    refine ⟨_, es, .inl ⟨rfl, xs, SqL.of hp⟩, G, A, ρ, R, (show After c B W G A H σ (((seqM fs).bind _) ρ) _ from a1).split.imp fun ds ρ2 G2 H2 s2 _ R2 a2 vs rv => ?_⟩
    obtain ⟨d, e3, a2⟩ := a2.ownAt
    obtain ⟨⟨r1, d'⟩, e4, a2⟩ := a2.liftB
    obtain ⟨p', es', hA', hO'⟩ := R2.own i d e3
    rw [es] at es'; cases es'
    refine hs G2 H2 p vs d ds r1 d' Q R2.same hO' rv e4 fun o v ho hr => ?_
    obtain ⟨R3, k3, s3⟩ := R2.setOwn e3 es ho
    exact After.ok (After.of (Same.refl _) k3 a2) R3 v hr
theorem pm_methWR0 (i : Nat) {e : Expr} {r : V → List V → Hp → VK → Prop} {sem : D → List D → Option (D × D)} (hs : SemWR c r sem) (h : PE X e (tBM0 X.K "list" r (tVar i))) : PE X e (tM c B W (mMethWR sem i [])) :=
  pe_imp h fun σ H Q ⟨G, A, ρ, R, a⟩ => by
    obtain ⟨d0, e0, a1⟩ := After.ownAt a
    obtain ⟨p, es, hA, hO⟩ := R.own i d0 e0
    cases d0 <;> first | exact a1.elim | skip
    rename_i ds0
    obtain ⟨xs, hp, _⟩ := id hO
    have a2 := After.ok (show After c B W G A H σ (((seqM []).bind _) ρ) _ from a1).split R
    obtain ⟨d, e3, a2⟩ := a2.ownAt
    obtain ⟨⟨r1, d'⟩, e4, a2⟩ := a2.liftB
    obtain ⟨p', es', hA', hO'⟩ := R.own i d e3
    rw [es] at es'; cases es'
    refine ⟨_, es, .inl ⟨rfl, xs, SqL.of hp⟩, hs G H p [] d [] r1 d' Q R.same hO' .nil e4 fun o v ho hr => ?_⟩
    obtain ⟨R3, k3, s3⟩ := R.setOwn e3 es ho
    exact After.ok (After.of (Same.refl _) k3 a2) R3 v hr
end
end Fx
set_option Elab.async false
set_option linter.all false
set_option maxRecDepth 100000
set_option maxHeartbeats 4000000
/-! FxE: loops over a list or a tuple, enumerate of either. -/
namespace PySem
open Sem (wp)
open AutoSeq1 (wpAny_loadPart')
theorem fx_enum_new {v : Value} {o : Obj} {H : Heap → Prop} (B : Begins v o H) :
    Meets (Builtin.«enumerate.__new__» ⟨[.type "enumerate", v], []⟩) (fun _ R s => H s.heap ∧
      R (.ok (.ret (.ref (s.heap.push o).objs.size))) { s with heap := (s.heap.push o).push { cls := .type "enumerate", data := .fields #[.none, .bool false, .ref s.heap.objs.size, rawInt 0, .none, .none] } }) :=
  .of_wp fun prog w A R s h => by
    obtain ⟨hp, g, d, tk, os⟩ := s; obtain ⟨h1, h⟩ := h
    have hsub := sub_enumerate
    have q1 : ∀ {A' : Around} {E : Value → Shared → Prop} {Q : Value → Shared → Prop}, Q (.ref hp.objs.size) ⟨hp.push o, g, d, tk, os⟩ → wpAny (model prog w) A' (pyIter v) Q E ⟨hp, g, d, tk, os⟩ :=
      fun q => B.iter prog w _ _ ⟨hp, g, d, tk, os⟩ _ h1 q
    wp_walk using q1
    refine wpAny_stack_any fun st => wpAny_pure ?_
    split
    · rename_i c _ _ _ _ _
      cases (c == Value.type "enumerate")
      · wp_walk using q1
        exact ⟨_, rfl, h⟩
      · wp_walk using q1
        exact ⟨_, rfl, h⟩
    · wp_walk using q1
      exact ⟨_, rfl, h⟩
section
variable {prog : Program} {w : World} {A : Around} {E : Value → Shared → Prop} {s : Shared}
theorem fx_enum_begins {v : Value} {o : Obj} {H : Heap → Prop} {Q : Value → Shared → Prop} (B : Begins v o H) (h1 : H s.heap)
    (h : ∀ h', IsEnum h' (s.heap.objs.size + 1) s.heap.objs.size 0 .none → h'.get? s.heap.objs.size = some o → h'.objs.size = s.heap.objs.size + 2 →
      (∀ b o, s.heap.get? b = some o → h'.get? b = some o) → Q (.ref (s.heap.objs.size + 1)) { s with heap := h' }) :
    wpAny (model prog w) A (call (.type "enumerate") [v]) Q E s := by
  refine callType_new F.called_enumerate (by decide) (F.typeCall_enumerate_1 _) (F.newCall_enumerate_1 _) (fun obj => F.args_object_init_2 obj _) F.entry_enumerate_new
    (fx_enum_new B) ⟨h1, ?_⟩
  have hz : (s.heap.push o).objs.size = s.heap.objs.size + 1 := Heap.size_push ..
  show _ ∧ _
  rw [hz]
  have he : IsEnum ((s.heap.push o).push { cls := .type "enumerate", data := .fields #[.none, .bool false, .ref s.heap.objs.size, rawInt 0, .none, .none] }) (s.heap.objs.size + 1) s.heap.objs.size 0 .none := by
    have := Heap.get?_push_size (s.heap.push o) (o := { cls := .type "enumerate", data := .fields #[.none, .bool false, .ref s.heap.objs.size, rawInt 0, .none, .none] }) rfl
    rw [hz] at this; exact this
  refine ⟨⟨_, he, rfl⟩, h _ he (Heap.get?_push_of_some _ (Heap.get?_push_size _ B.free)) (by rw [Heap.size_push, hz]) fun b o x => Heap.get?_push_of_some _ (Heap.get?_push_of_some _ x)⟩
theorem fx_enum_end {e it l : Addr} {i : Nat} {items : Array Value} {old : Value} {Q : Option Value → Shared → Prop} (hh : A.in1.handled = none)
    (he : IsEnum s.heap e it i old) (hit : s.heap.IsTupleIter it l i) (hl : s.heap.IsTuple l items) (hx : items[i]? = none)
    (hQ : ∀ h', Heap.ExtBut it s.heap h' → Q none { s with heap := h' }) : wpAny (model prog w) A (pyNext (.ref e)) Q E s := by
  have hT : s.TypeIs (.ref e) "enumerate" := ⟨_, he, rfl⟩
  unfold pyNext
  refine wpAny_bind (wpAny_attempt (wpAny_callSpecial?_slot (name := Str.ofString "__next__") hT F.slot_enumerate_next
    (wpAny_call_entry F.slot_enumerate_next hT F.entry_enumerate_next ?_ (F.args_enumerate_next_1 _))))
  show wpAny _ _ (field (.ref e) 2 >>= _) _ _ _
  refine wpAny_bind (wpAny_field he rfl (x := .ref it) rfl ?_)
  refine wpAny_bind (wpAny_nextOf_tuple_end hh hit hl hx fun h' x he' hx' => ?_)
  obtain ⟨o, ho, hc⟩ := hx'
  refine wpAny_bind (wpAny_isInstance (T := "StopIteration") (b := true) ⟨o, ho, hc⟩ isSubtype_stop ?_)
  exact wpAny_pure (hQ _ he')
end
end PySem
namespace Fx
open PySem PySem.Spec PyProof.Rows L2
def Iet (K : PySem.W.Frag) (a : Addr) : It :=
  ⟨fun i H => ∃ (xs : List V) (x : V), SqT K H a xs ∧ xs[i]? = some x, fun i H v H' => ∃ T x, v = .ref T ∧ H T = none ∧ H' = upd H T (.tup [.int (i : Nat), x]) ∧ ∀ xs, SqT K H a xs → xs[i]? = some x, fun i H => ∃ xs : List V, SqT K H a xs ∧ xs.length ≤ i⟩
theorem turn_enumT {P : Program} {w : World} {K : PySem.W.Frag} {elts : List Expr} {kk : Nat} {tpos : Pos} (a e it : Addr) :
    Turn P w K (.Tuple elts kk tpos) (Iet K a) [e, it] e (fun i h => (∃ old, IsEnum h e it ((i : Nat) : Int) old) ∧ h.IsTupleIter it a i ∧ e ≠ it ∧ a ≠ it ∧ e ≠ a) where
  mem := by simp
  obj := fun i h st b hb => by
    obtain ⟨⟨old, he⟩, ⟨o, ho, hc, hd⟩, _⟩ := st
    have e' : b = e ∨ b = it := by simpa using hb
    rcases e' with z | z
    · rw [z]; exact ⟨_, he, fun v q => nomatch q⟩
    · rw [z]; exact ⟨o, ho, fun v q => by rw [hd] at q; cases q⟩
  keep := fun i h h' st k => let ⟨⟨old, he⟩, hi, hne⟩ := st; ⟨⟨old, k e (by simp) _ he⟩, hi.at fun o q => k it (by simp) o q, hne⟩
  item := by
    intro X hP hw hK hc i pins s σ H E I hf st hg
    subst hP hw hK
    obtain ⟨⟨old, he⟩, hit, hne, hai, hea⟩ := st
    obtain ⟨xs, x, hq, hx⟩ := hg
    obtain ⟨its, rv, p, hz⟩ := I.tuple hq
    obtain ⟨u, hu, ru⟩ := rv.get hx
    have hel : e < s.heap.objs.size := Heap.lt_size he
    have hil : it < s.heap.objs.size := by obtain ⟨_, q, _⟩ := hit; exact Heap.lt_size q
    have hlen : i < its.toArray.size := by
      have := (List.getElem?_eq_some_iff.mp hu).1
      rw [List.size_toArray]; exact this
    have hh : X.A.in1.handled = none := I.ok.hd hc
    refine wpAny_pyNext_enum_itemD (Draws.tuple hh it a hai its.toArray) he ⟨hit, p⟩ hlen hne (by simp [hne, hea]) fun y h' tk hy ho st' hT hsz hk => ?_
    have ey : y = u := by
      have : its.toArray[i]? = some y := hy
      have h2 : its[i]? = some y := by simpa using this
      rw [hu] at h2; exact (Option.some.inj h2).symm
    subst ey
    refine ⟨_, rfl, wpAny_letOwnedTupleGo_enum (s := { s with heap := h', toks := tk + 1 }) ho fun h'' he' sb => ?_⟩
    have hT2 : h''.get? s.heap.objs.size = some { cls := .type "tuple", data := .seq #[.int i tk, y] } := (sb.2 _ (Nat.ne_of_gt hel)).trans hT
    have new : ObjOk X.prog X.w (upd H s.heap.objs.size (.tup [.int (i : Nat), x])) h'' s.heap.objs.size (.tup [.int (i : Nat), x]) :=
      ⟨by show 2 ≤ sizeLine; decide, [.int i tk, y], .cons ⟨_, rfl⟩ (.cons ru .nil), ⟨_, hT2, rfl, _, rfl⟩⟩
    have I1 : Inv X pins σ (upd H s.heap.objs.size (.tup [.int (i : Nat), x])) { s with heap := h'', toks := tk + 1 } :=
      I.turnedNew (ch := [e, it]) (fun b ob hb q => (sb.2 b (fun z => hb (by simp [z]))).trans (hk b ob (fun z => hb (by simp [z])) (fun z => hb (by simp [z])) q)) hf (Nat.le_refl _) new
    refine ⟨.ref s.heap.objs.size, _, I1, rfl, ⟨_, x, rfl, I.hok.fresh (Nat.le_refl _), rfl, fun ys hy => by rw [I.tuple_inj hy hq]; exact hx⟩, ⟨⟨y, ?_⟩, st'.1.at fun o q => (sb.2 it (Ne.symm hne)).trans q, hne, hai, hea⟩, fun b hb => ?_⟩
    · have e1 : ((i + 1 : Nat) : Int) = (i : Int) + 1 := by omega
      rw [e1]; exact he'
    · have hb' : b < s.heap.objs.size := by
        have e' : b = e ∨ b = it := by simpa using hb
        rcases e' with z | z
        · rw [z]; exact hel
        · rw [z]; exact hil
      rw [upd_ne (Nat.ne_of_lt hb')]
      exact (hf b hb).1
  done := by
    intro X hP hw hK hc i pins s σ H E I hf st hg
    subst hP hw hK
    obtain ⟨⟨old, he⟩, hit, hne, hai, hea⟩ := st
    obtain ⟨xs, hq, hx⟩ := hg
    obtain ⟨its, rv, p, hz⟩ := I.tuple hq
    obtain ⟨f0, f1, f2, f3, f4, f5⟩ := hf it (by simp)
    have hl := rv.length
    have hh : X.A.in1.handled = none := I.ok.hd hc
    exact fx_enum_end hh he hit p (by simp; omega) fun h' eb => ⟨rfl, I.turned (t' := s.toks) (fun b o hb q => eb b o hb q) f0 f1 f3 f4 f5⟩
  self := fun A i s Q E st h => let ⟨⟨_, he⟩, _⟩ := st; wpAny_pyIter_enum he h
section
variable {X : Cx} {tg : Expr}
/-- enumerate of a list or of a tuple -/
def iEnumS (K : PySem.W.Frag) (ta : TA) : TI := fun σ H R => ta σ H fun vs H1 => ∃ a xs, vs = [.ref a] ∧ ((SqL K H1 a xs ∧ R (Ite K a) H1) ∨ (SqT K H1 a xs ∧ R (Iet K a) H1))
theorem pi_enumS {e : Expr} {ta : TA} {p pos tpos : Pos} {elts : List Expr} {kk : Nat} (hg : Gl X "enumerate") (hm : X.mg "enumerate" = none) (ha : PA X [e] ta) (hs : starEach [e] X.env = [(false, eval e X.env)] := by rfl) :
    PI X (.Tuple elts kk tpos) (.Call (.Name "enumerate" p) [e] [] pos) (iEnumS X.K ta) := by
  refine ⟨fun pins s σ H R I h => ?_⟩
  refine Call_ (ld_blt I hg hm boot_enumerate (PyProof.Rows.callWith_type1 (thn (ha.run pos pins s σ H _ I h) fun us s1 ⟨vs, H1, I1, r1, q1⟩ => ?_) hs rfl))
  obtain ⟨a, xs, ex, q⟩ := q1
  subst ex
  cases r1 with
  | cons r rr =>
    cases rr
    cases r
    rcases q with ⟨hq, q⟩ | ⟨hq, q⟩
    · obtain ⟨its, rv, p', hz⟩ := I1.list hq
      refine call_enumerate_list p'.isList fun h' he hit hsz hk => wpAny_pyIter_enum he ?_
      have I2 : Inv X pins σ H1 { s1 with heap := h' } := I1.kept (t' := s1.toks) hk
      refine ⟨s1.heap.objs.size + 1, [s1.heap.objs.size + 1, s1.heap.objs.size], _, _, H1, rfl, I2, turn_enum a (s1.heap.objs.size + 1) s1.heap.objs.size, ⟨⟨.none, he⟩, hit, Nat.succ_ne_self _⟩, fun b hb => ?_, q⟩
      have e' : b = s1.heap.objs.size + 1 ∨ b = s1.heap.objs.size := by simpa using hb
      have hle : s1.heap.objs.size ≤ b := by
        rcases e' with z | z
        · rw [z]; exact Nat.le_add_right _ _
        · rw [z]; exact Nat.le_refl _
      exact I1.fpOk hle (I1.hok.fresh hle)
    · obtain ⟨its, rv, p', hz⟩ := I1.tuple hq
      refine fx_enum_begins (begins_tuple a its.toArray) p' fun h' he hit hsz hk => wpAny_pyIter_enum he ?_
      have I2 : Inv X pins σ H1 { s1 with heap := h' } := I1.kept (t' := s1.toks) hk
      have hal : a < s1.heap.objs.size := p'.lt
      refine ⟨s1.heap.objs.size + 1, [s1.heap.objs.size + 1, s1.heap.objs.size], _, _, H1, rfl, I2, turn_enumT a (s1.heap.objs.size + 1) s1.heap.objs.size, ⟨⟨.none, he⟩, ⟨_, hit, rfl, rfl⟩, Nat.succ_ne_self _, Nat.ne_of_lt hal, Ne.symm (Nat.ne_of_lt (Nat.lt_succ_of_lt hal))⟩, fun b hb => ?_, q⟩
      have e' : b = s1.heap.objs.size + 1 ∨ b = s1.heap.objs.size := by simpa using hb
      have hle : s1.heap.objs.size ≤ b := by
        rcases e' with z | z
        · rw [z]; exact Nat.le_add_right _ _
        · rw [z]; exact Nat.le_refl _
      exact I1.fpOk hle (I1.hok.fresh hle)
/-- a list or a tuple, walked -/
def iSeq (K : PySem.W.Frag) (tl : TE) : TI := fun σ H R => tl σ H fun x H1 => ∃ a xs, x = .ref a ∧ ((SqL K H1 a xs ∧ R (Itl K a) H1) ∨ (SqT K H1 a xs ∧ R (Itt K a) H1))
theorem pi_seq {l : Expr} {tl : TE} (hl : PE X l tl) : PI X tg l (iSeq X.K tl) := by
  refine ⟨fun pins s σ H R I h => ?_⟩
  refine thn (hl.run pins s σ H _ I h) fun v s1 ⟨x, H1, I1, r1, q1⟩ => ?_
  obtain ⟨a, xs, e, q⟩ := q1
  subst e
  cases r1
  rcases q with ⟨hq, q⟩ | ⟨hq, q⟩
  · obtain ⟨its, rv, p, hz⟩ := I1.list hq
    refine wpAny_pyIter_list p.isList ?_
    refine ⟨s1.heap.objs.size, [s1.heap.objs.size], _, _, H1, rfl, I1.kept (t' := s1.toks) fun b o e => Heap.get?_push_of_some _ e, turn_list a _, ⟨_, Heap.get?_push_size _ rfl, rfl, rfl⟩, fun b hb => ?_, q⟩
    have e : b = s1.heap.objs.size := by simpa using hb
    subst e
    exact I1.fpOk (Nat.le_refl _) (I1.hok.fresh (Nat.le_refl _))
  · obtain ⟨its, rv, p, hz⟩ := I1.tuple hq
    refine wpAny_pyIter_tuple (show s1.heap.IsTuple a its.toArray from p) ?_
    refine ⟨s1.heap.objs.size, [s1.heap.objs.size], _, _, H1, rfl, I1.kept (t' := s1.toks) fun b o e => Heap.get?_push_of_some _ e, turn_tuple a _, ⟨_, Heap.get?_push_size _ rfl, rfl, rfl⟩, fun b hb => ?_, q⟩
    have e : b = s1.heap.objs.size := by simpa using hb
    subst e
    exact I1.fpOk (Nat.le_refl _) (I1.hok.fresh (Nat.le_refl _))
end
end Fx
set_option Elab.async false
set_option linter.all false
set_option maxRecDepth 100000
set_option maxHeartbeats 4000000
/-! Fx6: statements. -/
namespace Fx
open PySem L2
/-- a step of statements: A what is owned ahead, A' behind -/
structure Stp (G : Hp) (A : Addr → Prop) (H G' : Hp) (A' : Addr → Prop) (H' : Hp) : Prop where
  gg : Same G G'
  kp : Keep A G H G' H'
  aa : ∀ b, A' b → A b ∨ H b = none
section
variable {G G1 G2 H H1 H2 : Hp} {A A1 A2 : Addr → Prop}
theorem Stp.refl : Stp G A H G A H := ⟨Same.refl _, Keep.refl _ _, fun _ h => .inl h⟩
theorem Stp.trans (a : Stp G A H G1 A1 H1) (b : Stp G1 A1 H1 G2 A2 H2) (hA : ∀ b, A b → ∃ o, H b = some o) : Stp G A H G2 A2 H2 where
  gg := a.gg.trans b.gg
  kp := fun x o h n => by
    have h1 := a.kp x o h n
    have h2 := b.kp x o h1.1 fun z => (a.aa x z).elim n fun w => by rw [w] at h; cases h
    exact ⟨h2.1, h2.2.trans h1.2⟩
  aa := fun x h => (b.aa x h).elim (a.aa x) fun w => by
    by_cases n : A x
    · exact .inl n
    · refine .inr ?_
      cases q : H x with
      | none => rfl
      | some o => have := (a.kp x o q n).1; rw [w] at this; cases this
theorem Stp.same (s : Same G G1) (k : Keep A G H G1 H1) : Stp G A H G1 A H1 := ⟨s, k, fun _ h => .inl h⟩
end
def AfterS (c : Cf) (B : List (Nat × Addr)) (W : WX) (G : Hp) (A : Addr → Prop) (H : Hp) (o : OutS) (D : Ends) : Prop := match o with
  | .stuck => False
  | .next ρ' => ∀ G' A' H' σ', Stp G A H G' A' H' → Rel c B G' A' H' σ' ρ' → D.nx σ' H'
  | .ret d ρ' => ∀ G' A' H' σ' v, Stp G A H G' A' H' → Rel c B G' A' H' σ' ρ' → Rep c G' v d → D.rt v H'
  | .brk ρ' => ∀ G' A' H' σ', Stp G A H G' A' H' → Rel c B G' A' H' σ' ρ' → D.bk σ' H'
  | .cont ρ' => ∀ G' A' H' σ', Stp G A H G' A' H' → Rel c B G' A' H' σ' ρ' → D.ct σ' H'
  | .exc x ρ' => ∀ G' A' H' σ' dd, Stp G A H G' A' H' → Rel c B G' A' H' σ' ρ' → ExcAt c G' x dd → W (.ref (c.exc x.c)) (some dd) σ' H'
def tS (c : Cf) (B : List (Nat × Addr)) (W : WX) (m : MS) : TS := fun D σ H => ∃ G A ρ, Rel c B G A H σ ρ ∧ AfterS c B W G A H (m ρ) D
section
variable {c : Cf} {B : List (Nat × Addr)} {W : WX} {X : Cx} {G H : Hp} {A : Addr → Prop} {σ : L2.St} {ρ : Cells} {Z : Ends}
theorem Rel.own_there (R : Rel c B G A H σ ρ) : ∀ b, A b → ∃ o, H b = some o := fun b h => (R.ownA b h).2
theorem AfterS.of {o : OutS} {G' H' : Hp} {A' : Addr → Prop} (hA : ∀ b, A b → ∃ o, H b = some o) (s : Stp G A H G' A' H') (h : AfterS c B W G A H o Z) : AfterS c B W G' A' H' o Z := by
  cases o with
  | stuck => exact h
  | next ρ' => exact fun G2 A2 H2 σ2 s2 R => h G2 A2 H2 σ2 (s.trans s2 hA) R
  | ret d ρ' => exact fun G2 A2 H2 σ2 v s2 R r => h G2 A2 H2 σ2 v (s.trans s2 hA) R r
  | brk ρ' => exact fun G2 A2 H2 σ2 s2 R => h G2 A2 H2 σ2 (s.trans s2 hA) R
  | cont ρ' => exact fun G2 A2 H2 σ2 s2 R => h G2 A2 H2 σ2 (s.trans s2 hA) R
  | exc x ρ' => exact fun G2 A2 H2 σ2 dd s2 R r => h G2 A2 H2 σ2 dd (s.trans s2 hA) R r
theorem AfterS.nx (h : AfterS c B W G A H (.next ρ) Z) (R : Rel c B G A H σ ρ) : Z.nx σ H := h G A H σ Stp.refl R
/-- an expression's outcome inside a statement -/
def mDo {α : Type} (f : M α) (k : α → MS) : MS := fun ρ => match f ρ with
  | .stuck => .stuck
  | .ok a ρ' => k a ρ'
  | .exc x ρ' => .exc x ρ'
theorem AfterS.split {α : Type} {f : M α} {k : α → MS} (h : AfterS c B W G A H (mDo f k ρ) Z) (R : Rel c B G A H σ ρ) : After c B W G A H σ (f ρ) fun a ρ' G' H' => AfterS c B W G' A H' (k a ρ') Z := by
  unfold mDo at h
  cases e : f ρ with
  | stuck => rw [e] at h; exact h
  | ok a ρ' =>
    rw [e] at h
    exact fun G' H' s kk R' => AfterS.of R.own_there (Stp.same s kk) h
  | exc x ρ' =>
    rw [e] at h
    exact fun G' H' dd s kk R' r => h G' A H' σ dd (Stp.same s kk) R' r

/-! ### blocks -/
def mSkip : MS := fun ρ => .next ρ
def mSeq (m n : MS) : MS := fun ρ => match m ρ with
  | .next ρ' => n ρ'
  | o => o
theorem pss_nilM : PSs X [] (tS c B W mSkip) := pss_imp pss_nil fun D σ H ⟨G, A, ρ, R, a⟩ => a.nx R
theorem AfterS.seq {m n : MS} (h : AfterS c B W G A H (mSeq m n ρ) Z) (R : Rel c B G A H σ ρ) : AfterS c B W G A H (m ρ) { Z with nx := tS c B W n Z } := by
  unfold mSeq at h
  cases e : m ρ with
  | next ρ' =>
    rw [e] at h
    exact fun G' A' H' σ' s R' => ⟨G', A', ρ', R', AfterS.of R.own_there s h⟩
  | stuck => rw [e] at h; exact h
  | ret d ρ' => rw [e] at h; exact h
  | brk ρ' => rw [e] at h; exact h
  | cont ρ' => rw [e] at h; exact h
  | exc x ρ' => rw [e] at h; exact h
theorem pss_consM {st : Stmt} {rest : List Stmt} {m n : MS} (h1 : PS X st (tS c B W m)) (h2 : PSs X rest (tS c B W n)) : PSs X (st :: rest) (tS c B W (mSeq m n)) :=
  pss_imp (pss_cons h1 h2) fun D σ H ⟨G, A, ρ, R, a⟩ => ⟨G, A, ρ, R, a.seq R⟩
theorem pss_oneM {st : Stmt} {m : MS} (h1 : PS X st (tS c B W m)) : PSs X [st] (tS c B W m) := pss_one h1

/-! ### return, expressions, if, pass, break, continue -/
def mRet (f : M D) : MS := mDo f fun d ρ => .ret d ρ
theorem ps_retM {e : Expr} {f : M D} {pos : Pos} (he : PE X e (tM c B W f)) : PS X (.Return (some e) pos) (tS c B W (mRet f)) :=
  ps_imp (ps_ret he) fun D σ H ⟨G, A, ρ, R, a⟩ => ⟨G, A, ρ, R, (a.split R).imp fun d ρ' G' H' _ _ R' q v r => q G' A H' σ v Stp.refl R' r⟩
def mRetN : MS := fun ρ => .ret .non ρ
theorem ps_retNM {pos : Pos} : PS X (.Return none pos) (tS c B W mRetN) := ps_imp ps_retN fun D σ H ⟨G, A, ρ, R, a⟩ => a G A H σ .non Stp.refl R .non
def mExpr (f : M D) : MS := mDo f fun _ ρ => .next ρ
theorem ps_exprM {e : Expr} {f : M D} {pos : Pos} (he : PE X e (tM c B W f)) (hs : swapsWith e none pos.line X.env = pure false := by rfl) : PS X (.Expr e pos) (tS c B W (mExpr f)) :=
  ps_imp (ps_expr he hs) fun D σ H ⟨G, A, ρ, R, a⟩ => ⟨G, A, ρ, R, (a.split R).imp fun d ρ' G' H' _ _ R' q v r => q.nx R'⟩
theorem ps_docM {x : Str} {j pos pos'} : PS X (.Expr (.Constant (.str x) j pos) pos') (tS c B W mSkip) := ps_imp ps_doc fun D σ H ⟨G, A, ρ, R, a⟩ => a.nx R
theorem ps_passM {pos : Pos} : PS X (.Pass pos) (tS c B W mSkip) := ps_imp ps_pass fun D σ H ⟨G, A, ρ, R, a⟩ => a.nx R
def mBrk : MS := fun ρ => .brk ρ
def mCont : MS := fun ρ => .cont ρ
theorem ps_brkM {pos : Pos} : PS X (.Break pos) (tS c B W mBrk) := ps_imp ps_break fun D σ H ⟨G, A, ρ, R, a⟩ => a G A H σ Stp.refl R
theorem ps_contM {pos : Pos} : PS X (.Continue pos) (tS c B W mCont) := ps_imp ps_continue fun D σ H ⟨G, A, ρ, R, a⟩ => a G A H σ Stp.refl R
def mIfS (b : M Bool) (m n : MS) : MS := mDo b fun b ρ => if b = true then m ρ else n ρ
theorem ps_ifM {t : Expr} {a b : List Stmt} {pos : Pos} {f : M Bool} {m n : MS} (ht : PT X t (tT c B W f)) (ha : PSs X a (tS c B W m)) (hb : PSs X b (tS c B W n)) : PS X (.If t a b pos) (tS c B W (mIfS f m n)) :=
  ps_imp (ps_if ht ha hb) fun D σ H ⟨G, A, ρ, R, a⟩ => by
    refine ⟨G, A, ρ, R, (a.split R).imp fun x ρ' G' H' _ _ R' q => ite_prop (fun e => ?_) (fun e => ?_)⟩
    · rw [if_pos e] at q; exact ⟨G', A, ρ', R', q⟩
    · rw [if_neg (by rw [e]; exact Bool.false_ne_true)] at q; exact ⟨G', A, ρ', R', q⟩

/-! ### targets -/
/-- a slot is filled with data -/
theorem Rel.setDat (R : Rel c B G A H σ ρ) {i : Nat} {d : D} {v : V} (r : Rep c G v d) (hb : B.all (fun q => q.1 != i) = true) : Rel c B G A H (σ.set i (some v)) (ρ.set i (.dat d)) := by
  refine ⟨R.same, by rw [List.length_set, List.length_set]; exact R.len, R.ownA, fun j x h => ?_, fun j x h => ?_, fun j k x y q hjk h1 h2 h3 h4 => ?_, fun q hq => ?_⟩
  · by_cases z : j = i
    · subst z
      have hi : j < ρ.length := by
        have := (List.getElem?_eq_some_iff.mp h).1
        rwa [List.length_set] at this
      rw [List.getElem?_set_self hi] at h; cases h
      exact ⟨v, by rw [List.getElem?_set_self (by rw [R.len]; exact hi)], r⟩
    · rw [List.getElem?_set_ne (Ne.symm z)] at h
      obtain ⟨w, h1, h2⟩ := R.dat j x h
      exact ⟨w, by rw [List.getElem?_set_ne (Ne.symm z)]; exact h1, h2⟩
  · by_cases z : j = i
    · subst z
      have hi : j < ρ.length := by
        have := (List.getElem?_eq_some_iff.mp h).1
        rwa [List.length_set] at this
      rw [List.getElem?_set_self hi] at h; cases h
    · rw [List.getElem?_set_ne (Ne.symm z)] at h
      obtain ⟨p, h1, h2, h3⟩ := R.own j x h
      exact ⟨p, by rw [List.getElem?_set_ne (Ne.symm z)]; exact h1, h2, h3⟩
  · have g : ∀ (j : Nat) (x : D), (ρ.set i (.dat d))[j]? = some (.own x) → j ≠ i ∧ ρ[j]? = some (.own x) := fun j x h => by
      by_cases z : j = i
      · subst z
        have hi : j < ρ.length := by
          have := (List.getElem?_eq_some_iff.mp h).1
          rwa [List.length_set] at this
        rw [List.getElem?_set_self hi] at h; cases h
      · rw [List.getElem?_set_ne (Ne.symm z)] at h; exact ⟨z, h⟩
    obtain ⟨n1, h1'⟩ := g j x h1
    obtain ⟨n2, h2'⟩ := g k y h2
    rw [List.getElem?_set_ne (Ne.symm n1)] at h3
    rw [List.getElem?_set_ne (Ne.symm n2)] at h4
    exact R.dis j k x y q hjk h1' h2' h3 h4
  · obtain ⟨h1, h2, x, h3⟩ := R.byr q hq
    have z : q.1 ≠ i := by
      have := List.all_eq_true.mp hb q hq
      simpa using this
    exact ⟨by rw [List.getElem?_set_ne (Ne.symm z)]; exact h1, h2, x, by rw [List.getElem?_set_ne (Ne.symm z)]; exact h3⟩
/-- what a target does with data -/
abbrev TgM := D → Cells → Option Cells
/-- only the slots ts have changed -/
def Only (ts : List Nat) (σ σ' : L2.St) : Prop := σ'.length = σ.length ∧ ∀ j, j ∉ ts → σ'[j]? = σ[j]?
/-- what stands for an item: data, or a pair that is about to be unpacked -/
abbrev VP := Cf → Hp → Hp → V → D → Prop
def vRep : VP := fun c G _ v d => Rep c G v d
def vAny : VP := fun c G H v d => Rep c G v d ∨ ∃ a xs es, v = .ref a ∧ SqT c.K H a xs ∧ d = .tup es ∧ RepL c G xs es
def tG (c : Cf) (B : List (Nat × Addr)) (P : VP) (ts : List Nat) (g : TgM) : TG := fun v σ H Q => ∃ G A ρ d ρ', Rel c B G A H σ ρ ∧ P c G H v d ∧ g d ρ = some ρ' ∧ ∀ σ', Rel c B G A H σ' ρ' → Only ts σ σ' → Q σ' H
def gNm (i : Nat) : TgM := fun d ρ => some (ρ.set i (.dat d))
theorem pg_nm (i : Nat) {x : Str} {pos : Pos} (hN : X.N.Nodup) (hb : B.all (fun q => q.1 != i) = true) (hi : X.N[i]? = some x := by rfl) (hx : Loc X.env.scope x := by first | exact Or.inl rfl | exact Or.inr rfl) (hf : X.fn x = true ∨ X.env.scope.names.lookup x = some .local := by first | exact .inl rfl | exact .inr rfl) : PG X (.Name x pos) (tG c B vRep [i] (gNm i)) :=
  pg_imp (pg_name hN hi hx hf) fun v σ H Q ⟨G, A, ρ, d, ρ', R, r, e, q⟩ => by
    cases e
    exact q _ (R.setDat r hb) ⟨List.length_set, fun j hj => List.getElem?_set_ne (fun z => hj (by simp [z]))⟩
/-- two or more names -/
def gNms : List Nat → List D → Cells → Option Cells
  | [], [], ρ => some ρ
  | i :: is, d :: ds, ρ => gNms is ds (ρ.set i (.dat d))
  | _, _, _ => none
def gTp (is : List Nat) : TgM := fun d ρ => match d with
  | .tup ds => gNms is ds ρ
  | _ => none
def tGs (c : Cf) (B : List (Nat × Addr)) (is : List Nat) : TGs := fun vs σ H Q => ∃ G A ρ ds ρ', Rel c B G A H σ ρ ∧ RepL c G vs ds ∧ gNms is ds ρ = some ρ' ∧ ∀ σ', Rel c B G A H σ' ρ' → Only is σ σ' → Q σ' H
theorem pgs_imp {es : List Expr} {t t' : TGs} (h : PGs X es t) (k : ∀ v σ H Q, t' v σ H Q → t v σ H Q) : PGs X es t' := ⟨fun pins s σ H v u Q I r q => h.run pins s σ H v u Q I r (k v σ H Q q)⟩
theorem pgs_nilM : PGs X [] (tGs c B []) := pgs_imp pgs_nil fun vs σ H Q ⟨G, A, ρ, ds, ρ', R, r, e, q⟩ => by
  cases r with
  | nil => cases e; exact ⟨rfl, q σ R ⟨rfl, fun _ _ => rfl⟩⟩
  | cons _ _ => cases e
theorem pgs_consM {e : Expr} {es : List Expr} {i : Nat} {is : List Nat} (h1 : PG X e (tG c B vRep [i] (gNm i))) (h2 : PGs X es (tGs c B is)) (hs : (assignEach (e :: es) X.env).map (·.2) = assign e X.env :: (assignEach es X.env).map (·.2) := by rfl) : PGs X (e :: es) (tGs c B (i :: is)) :=
  pgs_imp (pgs_cons h1 h2 hs) fun vs σ H Q ⟨G, A, ρ, ds, ρ', R, r, e, q⟩ => by
    cases r with
    | nil => cases e
    | cons h t => exact ⟨_, _, rfl, G, A, ρ, _, _, R, h, rfl, fun σ' R' o' => ⟨G, A, _, _, ρ', R', t, e, fun σ2 R2 o2 => q σ2 R2 ⟨o2.1.trans o'.1, fun j hj => (o2.2 j fun z => hj (List.mem_cons_of_mem _ z)).trans (o'.2 j fun z => hj (by simp at z; simp [z]))⟩⟩⟩
theorem gNms_len : ∀ {is : List Nat} {ds : List D} {ρ ρ' : Cells}, gNms is ds ρ = some ρ' → ds.length = is.length
  | [], [], _, _, _ => rfl
  | [], _ :: _, _, _, h => by cases h
  | _ :: _, [], _, _, h => by cases h
  | _ :: is, _ :: ds, _, _, h => by rw [List.length_cons, List.length_cons, gNms_len (is := is) (ds := ds) h]
theorem vAny.tup {G H : Hp} {v : V} {ds : List D} (s : Same G H) (h : vAny c G H v (.tup ds)) : ∃ a xs, v = .ref a ∧ SqT c.K H a xs ∧ RepL c G xs ds := by
  rcases h with h | ⟨a, xs, es, rfl, h1, h2, h3⟩
  · cases h with
    | tup e r => exact ⟨_, _, rfl, (e.mono s).sq, r⟩
  · cases h2; exact ⟨a, xs, rfl, h1, h3⟩
theorem pg_tpM {es : List Expr} {k : Nat} {pos : Pos} {is : List Nat} (hK : c.K = X.K) (hc : X.calm = true) (h : PGs X es (tGs c B is)) (hn : (assignEach es X.env).length = is.length := by rfl) (hst : (assignEach es X.env).findIdx? (·.1) = none := by rfl) : PG X (.Tuple es k pos) (tG c B vAny is (gTp is)) :=
  pg_imp (pg_tup hc h hn hst) fun v σ H Q ⟨G, A, ρ, d, ρ', R, r, e, q⟩ => by
    cases d <;> first | (cases e; done) | skip
    rename_i ds
    have e' : gNms is ds ρ = some ρ' := e
    obtain ⟨a, xs, rfl, h1, h2⟩ := vAny.tup R.same r
    exact ⟨a, xs, rfl, by rw [← hK]; exact h1, by rw [h2.length, gNms_len e'], G, A, ρ, ds, ρ', R, h2, e', q⟩
theorem pg_any {e : Expr} {ts : List Nat} {g : TgM} (h : PG X e (tG c B vAny ts g)) : PG X e (tG c B vRep ts g) :=
  pg_imp h fun v σ H Q ⟨G, A, ρ, d, ρ', R, r, q⟩ => ⟨G, A, ρ, d, ρ', R, .inl r, q⟩

/-! ### assignments -/
def mAsg (f : M D) (g : TgM) : MS := mDo f fun d ρ => match g d ρ with
  | some ρ' => .next ρ'
  | none => .stuck
theorem ps_asgM {tg e : Expr} {f : M D} {ts : List Nat} {g : TgM} {pos : Pos} (he : PE X e (tM c B W f)) (hg : PG X tg (tG c B vRep ts g)) (hs : swapsWithSole [tg] e pos.line X.env = pure false := by rfl) (hw : swappedStores [tg] e X.env = pure none := by rfl) (h1 : (assignEach [tg] X.env).map (·.2) = [assign tg X.env] := by rfl) :
    PS X (.Assign [tg] e pos) (tS c B W (mAsg f g)) :=
  ps_imp (ps_asg he hg hs hw h1) fun Z σ H ⟨G, A, ρ, R, a⟩ => by
    refine ⟨G, A, ρ, R, (a.split R).imp fun d ρ' G' H' _ _ R' q v r => ?_⟩
    cases e : g d ρ' with
    | none => rw [e] at q; exact q.elim
    | some ρ2 =>
      rw [e] at q
      exact ⟨G', A, ρ', d, ρ2, R', r, e, fun σ' R2 _ => q.nx R2⟩
/-- a new list or dict at a slot, owned -/
theorem Rel.newOwn (R : Rel c B G A H σ ρ) {i : Nat} {d : D} {p : Addr} {H2 : Hp} (hp : H p = none) (hh : Same H H2) (ho : Own c G (H2 p) d) (hb : B.all (fun q => q.1 != i) = true) :
    Rel c B G (fun b => A b ∨ b = p) H2 (σ.set i (some (.ref p))) (ρ.set i (.own d)) := by
  have gp : G p = none := R.same.free hp
  have na : ∀ b, A b → b ≠ p := fun b h z => by obtain ⟨_, o, q⟩ := R.ownA b h; rw [z, hp] at q; cases q
  refine ⟨R.same.trans hh, by rw [List.length_set, List.length_set]; exact R.len, fun b hb' => ?_, fun j x h => ?_, fun j x h => ?_, fun j k x y q hjk h1 h2 h3 h4 => ?_, fun q hq => ?_⟩
  · rcases hb' with h | h
    · obtain ⟨h1, o, h2⟩ := R.ownA b h
      exact ⟨h1, o, hh b o h2⟩
    · rw [h]; exact ⟨gp, ho.some⟩
  · by_cases z : j = i
    · subst z
      have hi : j < ρ.length := by
        have := (List.getElem?_eq_some_iff.mp h).1
        rwa [List.length_set] at this
      rw [List.getElem?_set_self hi] at h; cases h
    · rw [List.getElem?_set_ne (Ne.symm z)] at h
      obtain ⟨w, h1, h2⟩ := R.dat j x h
      exact ⟨w, by rw [List.getElem?_set_ne (Ne.symm z)]; exact h1, h2⟩
  · by_cases z : j = i
    · subst z
      have hi : j < ρ.length := by
        have := (List.getElem?_eq_some_iff.mp h).1
        rwa [List.length_set] at this
      rw [List.getElem?_set_self hi] at h; cases h
      exact ⟨p, by rw [List.getElem?_set_self (by rw [R.len]; exact hi)], .inr rfl, ho⟩
    · rw [List.getElem?_set_ne (Ne.symm z)] at h
      obtain ⟨q, h1, h2, h3⟩ := R.own j x h
      obtain ⟨u, hu⟩ := h3.some
      exact ⟨q, by rw [List.getElem?_set_ne (Ne.symm z)]; exact h1, .inl h2, by rw [hh q u hu, ← hu]; exact h3⟩
  · have g : ∀ (j : Nat) (x : D) (q : Addr), (ρ.set i (.own d))[j]? = some (.own x) → (σ.set i (some (.ref p)))[j]? = some (some (.ref q)) → (j = i ∧ q = p) ∨ (j ≠ i ∧ q ≠ p ∧ ρ[j]? = some (.own x) ∧ σ[j]? = some (some (.ref q))) := fun j x q h h' => by
      by_cases z : j = i
      · subst z
        have hi : j < σ.length := by
          have := (List.getElem?_eq_some_iff.mp h').1
          rwa [List.length_set] at this
        rw [List.getElem?_set_self hi] at h'; cases h'
        exact .inl ⟨rfl, rfl⟩
      · rw [List.getElem?_set_ne (Ne.symm z)] at h h'
        obtain ⟨r, h1, h2, _⟩ := R.own j x h
        rw [h'] at h1; cases h1
        exact .inr ⟨z, na q h2, h, h'⟩
    rcases g j x q h1 h3 with ⟨e1, e2⟩ | ⟨e1, e2, e3, e4⟩
    · rcases g k y q h2 h4 with ⟨f1, f2⟩ | ⟨f1, f2, f3, f4⟩
      · exact hjk (e1.trans f1.symm)
      · exact f2 e2
    · rcases g k y q h2 h4 with ⟨f1, f2⟩ | ⟨f1, f2, f3, f4⟩
      · exact e2 f2
      · exact R.dis j k x y q hjk e3 f3 e4 f4
  · obtain ⟨h1, h2, x, h3⟩ := R.byr q hq
    have z : q.1 ≠ i := by
      have := List.all_eq_true.mp hb q hq
      simpa using this
    exact ⟨by rw [List.getElem?_set_ne (Ne.symm z)]; exact h1, .inl h2, x, by rw [List.getElem?_set_ne (Ne.symm z)]; exact h3⟩
def mNew (f : M D) (i : Nat) : MS := mDo f fun d ρ => .next (ρ.set i (.own d))
theorem ps_newM (i : Nat) {x : Str} {e : Expr} {f : M D} {np pos : Pos} (hN : X.N.Nodup) (he : PE X e (tF c B W f)) (hb : B.all (fun q => q.1 != i) = true) (hi : X.N[i]? = some x := by rfl) (hx : Loc X.env.scope x := by first | exact Or.inl rfl | exact Or.inr rfl) (hf : X.fn x = true ∨ X.env.scope.names.lookup x = some .local := by first | exact .inl rfl | exact .inr rfl) (hs : swapsWithSole [.Name x np] e pos.line X.env = pure false := by rfl) (hw : swappedStores [.Name x np] e X.env = pure none := by rfl) :
    PS X (.Assign [.Name x np] e pos) (tS c B W (mNew f i)) :=
  ps_imp (ps_asg he (pg_name hN hi hx hf) hs hw) fun Z σ H ⟨G, A, ρ, R, a⟩ => by
    refine ⟨G, A, ρ, R, (a.split R).imp fun d ρ' G' H' _ _ R' q p H2 hp hh ho => ?_⟩
    have R2 := R'.newOwn hp hh ho hb
    exact q G' _ H2 _ ⟨Same.refl _, fun b o h _ => ⟨hh b o h, rfl⟩, fun b h => h.elim .inl fun z => .inr (by rw [z]; exact hp)⟩ R2
/-- what a slot owns is frozen -/
theorem Rel.freeze (R : Rel c B G A H σ ρ) {i : Nat} {d : D} {p : Addr} {u : HO} (e : ρ[i]? = some (.own d)) (es : σ[i]? = some (some (.ref p))) (hu : H p = some u) (hb : B.all (fun q => q.1 != i) = true) :
    Rel c B (upd G p u) (fun b => A b ∧ b ≠ p) H σ (ρ.set i (.dat d)) := by
  obtain ⟨p', es', hA, hO⟩ := R.own i d e
  rw [es] at es'; cases es'
  obtain ⟨gp, _⟩ := R.ownA p hA
  have gg : Same G (upd G p u) := same_upd gp
  have hi : i < ρ.length := (List.getElem?_eq_some_iff.mp e).1
  refine ⟨fun b w q => ?_, by rw [List.length_set]; exact R.len, fun b ⟨h1, h2⟩ => ?_, fun j x h => ?_, fun j x h => ?_, fun j k x y q hjk h1 h2 h3 h4 => ?_, fun q hq => ?_⟩
  · by_cases z : b = p
    · subst z; rw [upd_same] at q; cases q; exact hu
    · rw [upd_ne z] at q; exact R.same b w q
  · obtain ⟨h3, h4⟩ := R.ownA b h1
    exact ⟨by rw [upd_ne h2]; exact h3, h4⟩
  · by_cases z : j = i
    · subst z
      rw [List.getElem?_set_self hi] at h; cases h
      refine ⟨.ref p, es, ?_⟩
      have o' : Own c G ((upd G p u) p) d := by rw [upd_same, ← hu]; exact hO
      exact o'.rep gg
    · rw [List.getElem?_set_ne (Ne.symm z)] at h
      obtain ⟨w, h1, h2⟩ := R.dat j x h
      exact ⟨w, h1, h2.mono gg⟩
  · by_cases z : j = i
    · subst z; rw [List.getElem?_set_self hi] at h; cases h
    · rw [List.getElem?_set_ne (Ne.symm z)] at h
      obtain ⟨q, h1, h2, h3⟩ := R.own j x h
      exact ⟨q, h1, ⟨h2, fun w => R.dis j i x d p z h e (by rw [← w]; exact h1) es⟩, h3.mono gg⟩
  · have g : ∀ (j : Nat) (x : D), (ρ.set i (.dat d))[j]? = some (.own x) → ρ[j]? = some (.own x) := fun j x h => by
      by_cases z : j = i
      · subst z; rw [List.getElem?_set_self hi] at h; cases h
      · rw [List.getElem?_set_ne (Ne.symm z)] at h; exact h
    exact R.dis j k x y q hjk (g j x h1) (g k y h2) h3 h4
  · obtain ⟨h1, h2, x, h3⟩ := R.byr q hq
    have z : q.1 ≠ i := by
      have := List.all_eq_true.mp hb q hq
      simpa using this
    refine ⟨h1, ⟨h2, fun w => ?_⟩, x, by rw [List.getElem?_set_ne (Ne.symm z)]; exact h3⟩
    exact R.dis q.1 i x d p z h3 e (by rw [← w]; exact h1) es
def mFrz (i : Nat) (m : MS) : MS := fun ρ => match ρ[i]? with
  | some (.own d) => m (ρ.set i (.dat d))
  | _ => m ρ
theorem AfterS.frz {i : Nat} {m : MS} (R : Rel c B G A H σ ρ) (hb : B.all (fun q => q.1 != i) = true) (a : AfterS c B W G A H (mFrz i m ρ) Z) : ∃ G' A' ρ', Rel c B G' A' H σ ρ' ∧ AfterS c B W G' A' H (m ρ') Z := by
  unfold mFrz at a
  cases e : ρ[i]? with
  | none => rw [e] at a; exact ⟨G, A, ρ, R, a⟩
  | some cl =>
    rw [e] at a
    cases cl with
    | no => exact ⟨G, A, ρ, R, a⟩
    | dat d => exact ⟨G, A, ρ, R, a⟩
    | own d =>
      obtain ⟨p, es, hA, hO⟩ := R.own i d e
      obtain ⟨u, hu⟩ := hO.some
      have gp := (R.ownA p hA).1
      refine ⟨_, _, _, R.freeze e es hu hb, AfterS.of R.own_there ⟨same_upd gp, fun b o h n => ⟨h, upd_ne fun z => n (by rw [z]; exact hA)⟩, fun b h => .inl h.1⟩ a⟩
theorem ps_frz (i : Nat) {st : Stmt} {m : MS} (hb : B.all (fun q => q.1 != i) = true) (h : PS X st (tS c B W m)) : PS X st (tS c B W (mFrz i m)) := ps_imp h fun Z σ H ⟨G, A, ρ, R, a⟩ => a.frz R hb
end
end Fx
set_option Elab.async false
set_option linter.all false
set_option maxRecDepth 100000
set_option maxHeartbeats 4000000
/-! Fx7: loops, comprehensions. -/
namespace Fx
open PySem L2
/-! ### what is walked -/
structure ItOk (c : Cf) (P : VP) (J : It) (ds : List D) (G : Hp) : Prop where
  len : ds.length ≤ sizeLine
  go : ∀ i H', i < ds.length → Same G H' → J.go i H'
  yld : ∀ i G' H' x H'', i < ds.length → Same G G' → Same G' H' → J.yld i H' x H'' → ∃ G'' d, ds[i]? = some d ∧ Ext G' H' G'' H'' ∧ P c G'' H'' x d
  stop : ∀ H', Same G H' → J.stop ds.length H'
def tI (c : Cf) (B : List (Nat × Addr)) (W : WX) (P : VP) (f : M (List D)) : TI := fun σ H R => ∃ G A ρ, Rel c B G A H σ ρ ∧ After c B W G A H σ (f ρ) fun ds _ G' H' => ∀ J, ItOk c P J ds G' → R J H'
/-- a value's list or tuple is not longer than the line -/
def LenOk (v : V) (H : Hp) : Prop := ∀ a xs, v = .ref a → (Rd H a (.lst xs) ∨ Rd H a (.tup xs)) → xs.length ≤ sizeLine
section
variable {c : Cf} {B : List (Nat × Addr)} {W : WX} {X : Cx} {G H : Hp} {A : Addr → Prop} {σ : L2.St} {ρ : Cells} {Z : Ends}
theorem lenOk_of {pins : List (Addr × Obj)} {s : Shared} (I : Inv X pins σ H s) (v : V) : LenOk v H := fun a xs _ h => by
  rcases h with h | h
  · have q := h.ok I.hok; exact q.1
  · have q := h.ok I.hok; exact q.1
theorem pe_len {e : Expr} {t : TE} (h : PE X e t) : PE X e (fun σ H Q => t σ H fun v H' => LenOk v H' → Q v H') :=
  ⟨fun pins s σ H Q I q => thn (h.run pins s σ H _ I q) fun u s1 ⟨v, H1, I1, r, k⟩ => ⟨v, H1, I1, r, k (lenOk_of I1 v)⟩⟩
theorem pa_len {es : List Expr} {t : TA} (h : PA X es t) : PA X es (fun σ H Q => t σ H fun vs H' => (∀ v ∈ vs, LenOk v H') → Q vs H') :=
  ⟨fun pos pins s σ H Q I q => thn (h.run pos pins s σ H _ I q) fun u s1 ⟨v, H1, I1, r, k⟩ => ⟨v, H1, I1, r, k fun w _ => lenOk_of I1 w⟩⟩

/-! a list, a tuple -/
def mSeqI (f : M D) : M (List D) := f.bind fun d => M.lift (itemsOf d)
theorem rd_inj {K : PySem.W.Frag} {a : Addr} {xs ys : List V} {pins : List (Addr × Obj)} {s : Shared} (I : Inv X pins σ H s) (h : SqL X.K H a xs) (h' : SqL X.K H a ys) : xs = ys := I.list_inj h h'
theorem rep_seq {v : V} {d : D} {ds : List D} (s : Same G H) (r : Rep c G v d) (h : itemsOf d = some ds) (lo : LenOk v H) :
    ∃ a us, v = .ref a ∧ RepL c G us ds ∧ us.length ≤ sizeLine ∧ (LsG c.K G a us ∨ TupAt c.K G a us) := by
  cases r <;> first | (cases h; done) | skip
  · rename_i a xs es e rl
    cases h
    refine ⟨a, xs, rfl, rl, ?_, .inr e⟩
    rcases e with ⟨o, e, _⟩ | ⟨o, its, n, h1, h2, h3, h4, h5, h6⟩
    · exact lo a xs rfl (.inr (.inr ⟨o, s _ _ e⟩))
    · have e6 : xs.length = its.size := by rw [h6.length]; exact Array.length_toList
      rw [e6]
      exact h5
  · rename_i a xs es e rl
    cases h
    refine ⟨a, xs, rfl, rl, ?_, .inl e⟩
    rcases e with e | ⟨its, n, h1, h2, h3⟩
    · exact lo a xs rfl (.inl (same_rd s e))
    · rw [h3.length]; exact h2
theorem itl_ok {K : PySem.W.Frag} {a : Addr} {us : List V} {ds : List D} (r : RepL c G us ds) (hl : us.length ≤ sizeLine) (hr : LsG K G a us) : ItOk c vRep (Itl K a) ds G where
  len := by rw [← r.length]; exact hl
  go := fun i H' hi s => by
    obtain ⟨v, h1, _⟩ := r.get (List.getElem?_eq_getElem hi)
    exact ⟨us, v, (hr.mono s).sq, h1⟩
  yld := fun i G' H' x H'' hi s1 s2 ⟨e, h⟩ => by
    have hx := h us (hr.mono (s1.trans s2)).sq
    obtain ⟨d, h1, h2⟩ := r.getV hx
    subst e
    exact ⟨G', d, h1, Ext.refl s2, h2.mono s1⟩
  stop := fun H' s => ⟨us, (hr.mono s).sq, by rw [r.length]; exact Nat.le_refl _⟩
theorem itt_ok {K : PySem.W.Frag} (hK : c.K = K) {a : Addr} {us : List V} {ds : List D} (r : RepL c G us ds) (hl : us.length ≤ sizeLine) (hr : TupAt K G a us) : ItOk c vRep (Itt K a) ds G where
  len := by rw [← r.length]; exact hl
  go := fun i H' hi s => by
    obtain ⟨v, h1, _⟩ := r.get (List.getElem?_eq_getElem hi)
    exact ⟨us, v, (hr.mono s).sq, h1⟩
  yld := fun i G' H' x H'' hi s1 s2 ⟨e, h⟩ => by
    have hx := h us ((hr.mono (s1.trans s2)).sq)
    obtain ⟨d, h1, h2⟩ := r.getV hx
    subst e
    exact ⟨G', d, h1, Ext.refl s2, h2.mono s1⟩
  stop := fun H' s => ⟨us, (hr.mono s).sq, by rw [r.length]; exact Nat.le_refl _⟩
theorem pi_seqM (hK : c.K = X.K) {tg l : Expr} {f : M D} (h : PE X l (tM c B W f)) : PI X tg l (tI c B W vRep (mSeqI f)) :=
  pi_imp (pi_seq (pe_len h)) fun σ H R ⟨G, A, ρ, Rl, a⟩ => by
    refine ⟨G, A, ρ, Rl, a.split.imp fun d ρ' G' H' _ _ R' q v r lo => ?_⟩
    obtain ⟨ds, e, k⟩ := q.lift R'
    obtain ⟨p, us, rfl, rl, hl, hr | hr⟩ := rep_seq R'.same r e lo
    · exact ⟨p, us, rfl, .inl ⟨by rw [← hK]; exact (hr.mono R'.same).sq, k _ (itl_ok rl hl (by rw [← hK]; exact hr))⟩⟩
    · exact ⟨p, us, rfl, .inr ⟨by rw [← hK]; exact (hr.mono R'.same).sq, k _ (itt_ok hK rl hl (by rw [← hK]; exact hr))⟩⟩
/-! enumerate -/
def enumD : Nat → List D → List D
  | _, [] => []
  | n, d :: ds => .tup [.int (n : Int), d] :: enumD (n + 1) ds
theorem enumD_len : ∀ (n : Nat) (ds : List D), (enumD n ds).length = ds.length
  | _, [] => rfl
  | n, d :: ds => by rw [enumD, List.length_cons, List.length_cons, enumD_len]
theorem enumD_get : ∀ (n i : Nat) (ds : List D) (d : D), ds[i]? = some d → (enumD n ds)[i]? = some (.tup [.int ((n + i : Nat) : Int), d])
  | n, 0, e :: ds, d, h => by simp at h; subst h; rfl
  | n, i + 1, e :: ds, d, h => by
    have := enumD_get (n + 1) i ds d (by simpa using h)
    rw [enumD, List.getElem?_cons_succ, this]
    congr 4
    omega
def mEnum (f : M D) : M (List D) := f.bind fun d => (M.lift (itemsOf d)).bind fun ds => M.pure (enumD 0 ds)
theorem enum_yld {G' H' H'' : Hp} {x y : V} {d : D} {i : Nat} {T : Addr} (s2 : Same G' H') (hT : H' T = none) (e : H'' = upd H' T (.tup [.int (i : Nat), y])) (ex : x = .ref T) (r : Rep c G' y d) :
    ∃ G'', Ext G' H' G'' H'' ∧ vAny c G'' H'' x (.tup [.int (i : Nat), d]) := by
  subst e ex
  refine ⟨G', Ext.updH s2 hT, .inr ⟨T, _, _, rfl, SqT.of upd_same, rfl, .cons (.int _) (.one r)⟩⟩
theorem ite_ok {K : PySem.W.Frag} (hK : c.K = K) {a : Addr} {us : List V} {ds : List D} (r : RepL c G us ds) (hl : us.length ≤ sizeLine) (hr : LsG K G a us) : ItOk c vAny (Ite K a) (enumD 0 ds) G where
  len := by rw [enumD_len, ← r.length]; exact hl
  go := fun i H' hi s => by
    rw [enumD_len] at hi
    obtain ⟨v, h1, _⟩ := r.get (List.getElem?_eq_getElem hi)
    exact ⟨us, v, (hr.mono s).sq, h1⟩
  yld := fun i G' H' x H'' hi s1 s2 ⟨T, y, ex, hT, e, h⟩ => by
    have hx := h us (hr.mono (s1.trans s2)).sq
    obtain ⟨d, h1, h2⟩ := r.getV hx
    obtain ⟨G'', q1, q2⟩ := enum_yld s2 hT e ex (h2.mono s1)
    exact ⟨G'', _, by rw [enumD_get 0 i ds d h1, Nat.zero_add], q1, q2⟩
  stop := fun H' s => ⟨us, (hr.mono s).sq, by rw [enumD_len, r.length]; exact Nat.le_refl _⟩
theorem iet_ok {K : PySem.W.Frag} (hK : c.K = K) {a : Addr} {us : List V} {ds : List D} (r : RepL c G us ds) (hl : us.length ≤ sizeLine) (hr : TupAt K G a us) : ItOk c vAny (Iet K a) (enumD 0 ds) G where
  len := by rw [enumD_len, ← r.length]; exact hl
  go := fun i H' hi s => by
    rw [enumD_len] at hi
    obtain ⟨v, h1, _⟩ := r.get (List.getElem?_eq_getElem hi)
    exact ⟨us, v, (hr.mono s).sq, h1⟩
  yld := fun i G' H' x H'' hi s1 s2 ⟨T, y, ex, hT, e, h⟩ => by
    have hx := h us ((hr.mono (s1.trans s2)).sq)
    obtain ⟨d, h1, h2⟩ := r.getV hx
    obtain ⟨G'', q1, q2⟩ := enum_yld s2 hT e ex (h2.mono s1)
    exact ⟨G'', _, by rw [enumD_get 0 i ds d h1, Nat.zero_add], q1, q2⟩
  stop := fun H' s => ⟨us, (hr.mono s).sq, by rw [enumD_len, r.length]; exact Nat.le_refl _⟩
theorem pi_enumM {e : Expr} {f : M D} {p pos tpos : Pos} {elts : List Expr} {kk : Nat} (hK : c.K = X.K) (hm : X.mg "enumerate" = none) (h : PE X e (tM c B W f)) (hg : Gl X "enumerate" := by rfl) (hs : starEach [e] X.env = [(false, eval e X.env)] := by rfl) :
    PI X (.Tuple elts kk tpos) (.Call (.Name "enumerate" p) [e] [] pos) (tI c B W vAny (mEnum f)) :=
  pi_imp (pi_enumS hg hm (pa_len (pd_cons h pd_nil (by rw [hs]; rfl))) hs) fun σ H R ⟨G, A, ρ, Rl, a⟩ => by
    refine ⟨G, A, ρ, Rl, ?_⟩
    have a' : After c B W G A H σ ((seqM [f]) ρ) fun ds _ G' H' => ∀ vs, RepL c G' vs ds → (∀ v ∈ vs, LenOk v H') → ∃ a xs, vs = [V.ref a] ∧ ((SqL X.K H' a xs ∧ R (Ite X.K a) H') ∨ (SqT X.K H' a xs ∧ R (Iet X.K a) H')) := by
      have b := (show After c B W G A H σ ((f.bind _) ρ) _ from a).split
      show After c B W G A H σ ((f.bind fun d => M.pure [d]) ρ) _
      unfold M.bind
      cases hf : f ρ with
      | stuck => rw [hf] at b; exact b
      | exc x r => rw [hf] at b; exact b
      | ok d ρ1 =>
        rw [hf] at b
        intro G' H' s k R1 vs rs lo
        have q := b G' H' s k R1
        have q2 := q.split
        obtain ⟨ds, ed, q3⟩ := q.liftB
        have q4 := After.ok q3 R1
        obtain ⟨v, rfl, r⟩ := repL1 rs
        obtain ⟨p, us, rfl, rl, hl, hr | hr⟩ := rep_seq R1.same r ed (lo v (by simp))
        · exact ⟨p, us, rfl, .inl ⟨by rw [← hK]; exact (hr.mono R1.same).sq, q4 _ (ite_ok hK rl hl (by rw [← hK]; exact hr))⟩⟩
        · exact ⟨p, us, rfl, .inr ⟨by rw [← hK]; exact (hr.mono R1.same).sq, q4 _ (iet_ok hK rl hl (by rw [← hK]; exact hr))⟩⟩
    exact a'
/-! range -/
def rangeD (lo : Int) (n : Nat) : List D := (List.range n).map fun (k : Nat) => D.int (lo + (k : Int))
theorem rangeD_len (lo : Int) (n : Nat) : (rangeD lo n).length = n := by unfold rangeD; rw [List.length_map, List.length_range]
def mRange1 (f : M D) : M (List D) := f.bind fun d => match d with
  | .int j => if j ≤ 16777216 ∧ -16777216 ≤ j then M.pure (rangeD 0 j.toNat) else M.stuck
  | _ => M.stuck
def mRange2 (f g : M D) : M (List D) := f.bind fun d => g.bind fun e => match d, e with
  | .int i, .int j => if (j ≤ 16777216 ∧ -16777216 ≤ j) ∧ (i ≤ 16777216 ∧ 0 ≤ i) then M.pure (rangeD i (j - i).toNat) else M.stuck
  | _, _ => M.stuck
theorem itr_ok {lo : Int} {n : Nat} (hn : n ≤ 16777216) : ItOk c vRep (Itr lo n) (rangeD lo n) G where
  len := by rw [rangeD_len, sl]; exact hn
  go := fun i H' hi s => by rw [rangeD_len] at hi; exact hi
  yld := fun i G' H' x H'' hi s1 s2 ⟨e, h⟩ => by
    rw [rangeD_len] at hi
    subst e h
    refine ⟨G', .int (lo + (i : Int)), ?_, Ext.refl s2, .int _⟩
    unfold rangeD
    rw [List.getElem?_map, List.getElem?_range hi]
    rfl
  stop := fun H' s => by show n ≤ (rangeD lo n).length; rw [rangeD_len]; exact Nat.le_refl _
theorem pi_range1M {tg e : Expr} {f : M D} {p pos : Pos} (hm : X.mg "range" = none) (h : PE X e (tM c B W f)) (hg : Gl X "range" := by rfl) (hs : starEach [e] X.env = [(false, eval e X.env)] := by rfl) :
    PI X tg (.Call (.Name "range" p) [e] [] pos) (tI c B W vRep (mRange1 f)) :=
  pi_imp (pi_range1 hg hm (pd_cons h pd_nil (by rw [hs]; rfl)) hs) fun σ H R ⟨G, A, ρ, Rl, a⟩ => by
    refine ⟨G, A, ρ, Rl, ?_⟩
    have b := (show After c B W G A H σ ((f.bind _) ρ) _ from a).split
    show After c B W G A H σ ((f.bind fun d => M.pure [d]) ρ) _
    unfold M.bind
    cases hf : f ρ with
    | stuck => rw [hf] at b; exact b
    | exc x r => rw [hf] at b; exact b
    | ok d ρ1 =>
      rw [hf] at b
      intro G' H' s k R1 vs rs
      have q := b G' H' s k R1
      cases d <;> first | exact q.elim | skip
      rename_i j
      obtain ⟨v, rfl, r⟩ := repL1 rs
      have q : After c B W G' A H' σ ((if j ≤ 16777216 ∧ -16777216 ≤ j then M.pure (rangeD 0 j.toNat) else M.stuck) ρ1) _ := q
      split at q
      · rename_i hj
        exact ⟨j, by rw [rep_int r], by omega, by omega, After.ok q R1 _ (itr_ok (by omega))⟩
      · exact q.elim

/-! ### for -/
def loopM (g : TgM) (body : MS) : List D → MS
  | [], ρ => .next ρ
  | d :: ds, ρ => match g d ρ with
    | none => .stuck
    | some ρ1 => match body ρ1 with
      | .next ρ2 => loopM g body ds ρ2
      | .cont ρ2 => loopM g body ds ρ2
      | .brk ρ2 => .next ρ2
      | .stuck => .stuck
      | .ret d ρ2 => .ret d ρ2
      | .exc x ρ2 => .exc x ρ2
def mFor (fi : M (List D)) (g : TgM) (body : MS) : MS := mDo fi fun ds => loopM g body ds
theorem ps_forM {tg iter : Expr} {body : List Stmt} {fi : M (List D)} {P : VP} {ts : List Nat} {g : TgM} {m : MS} {pos : Pos} (hp : PassesOwn (model X.prog X.w) X.A X.env X.xe) (hc : X.calm = true) (hi : PI X tg iter (tI c B W P fi)) (hg : PG X tg (tG c B P ts g)) (hb : PSs X body (tS c B W m))
    (hs : ∀ x, foldedSetIterable iter X.env x = pure x := by intro _; rfl) : PS X (.For tg iter body [] pos) (tS c B W (mFor fi g m)) :=
  ps_imp (ps_for hp hc hi hg hb hs) fun Z σ H ⟨G, A, ρ, R, a⟩ => by
    refine ⟨G, A, ρ, R, (a.split R).imp fun ds ρ1 G1 H1 _ _ R1 a1 J ok => ?_⟩
    refine ⟨fun i n σ2 H2 => n = ds.length - i ∧ i ≤ ds.length ∧ ∃ G2 A2 ρ2, Same G1 G2 ∧ Rel c B G2 A2 H2 σ2 ρ2 ∧ AfterS c B W G2 A2 H2 (loopM g m (ds.drop i) ρ2) Z, ⟨_, rfl, Nat.zero_le _, G1, A, ρ1, Same.refl _, R1, a1⟩, ?_⟩
    rintro i n σ2 H2 ⟨rfl, hi, G2, A2, ρ2, s2, R2, a2⟩
    by_cases hlt : i < ds.length
    · refine .inr ⟨ok.go i H2 hlt (s2.trans R2.same), fun σ3 H3 => ∃ G3 A3 ρ3, Same G1 G3 ∧ Rel c B G3 A3 H3 σ3 ρ3 ∧ AfterS c B W G3 A3 H3 (loopM g m (ds.drop (i + 1)) ρ3) Z, fun σ3 H3 q => ⟨_, by omega, rfl, hlt, q⟩, fun x H3 hy => ?_⟩
      obtain ⟨G3, d, e1, x3, pr⟩ := ok.yld i G2 H2 x H3 hlt s2 R2.same hy
      have R3 := R2.ext x3
      have a3 := AfterS.of R2.own_there (Stp.same x3.gg x3.keep) a2
      have ed : ds.drop i = d :: ds.drop (i + 1) := by
        rw [List.drop_eq_getElem_cons hlt]
        congr 1
        rw [List.getElem?_eq_getElem hlt] at e1
        exact Option.some.inj e1
      rw [ed] at a3
      unfold loopM at a3
      cases eg : g d ρ2 with
      | none => rw [eg] at a3; exact a3.elim
      | some ρ3 =>
        rw [eg] at a3
        have a3 : AfterS c B W G3 A2 H3 (match m ρ3 with
          | .next ρ2 => loopM g m (ds.drop (i + 1)) ρ2
          | .cont ρ2 => loopM g m (ds.drop (i + 1)) ρ2
          | .brk ρ2 => .next ρ2
          | .stuck => .stuck
          | .ret d ρ2 => .ret d ρ2
          | .exc x ρ2 => .exc x ρ2) Z := a3
        refine ⟨G3, A2, ρ2, d, ρ3, R3, pr, eg, fun σ3 R4 _ => ⟨G3, A2, ρ3, R4, ?_⟩⟩
        have sG : Same G1 G3 := s2.trans x3.gg
        cases em : m ρ3 with
        | stuck => rw [em] at a3; exact a3.elim
        | next ρ4 => rw [em] at a3; exact fun G5 A5 H5 σ5 s5 R5 => ⟨G5, A5, ρ4, sG.trans s5.gg, R5, AfterS.of R4.own_there s5 a3⟩
        | cont ρ4 => rw [em] at a3; exact fun G5 A5 H5 σ5 s5 R5 => ⟨G5, A5, ρ4, sG.trans s5.gg, R5, AfterS.of R4.own_there s5 a3⟩
        | brk ρ4 => rw [em] at a3; exact fun G5 A5 H5 σ5 s5 R5 => a3 G5 A5 H5 σ5 s5 R5
        | ret d' ρ4 => rw [em] at a3; exact a3
        | exc x ρ4 => rw [em] at a3; exact a3
    · have ei : i = ds.length := by omega
      subst ei
      rw [List.drop_length] at a2
      exact .inl ⟨ok.stop H2 (s2.trans R2.same), a2.nx R2⟩
/-! ### while -/
def whileM (t : M Bool) (body : MS) : Nat → MS
  | 0, _ => .stuck
  | n + 1, ρ => match t ρ with
    | .stuck => .stuck
    | .exc x ρ1 => .exc x ρ1
    | .ok b ρ1 => if b = true then (match body ρ1 with
      | .next ρ2 => whileM t body n ρ2
      | .cont ρ2 => whileM t body n ρ2
      | .brk ρ2 => .next ρ2
      | .stuck => .stuck
      | .ret d ρ2 => .ret d ρ2
      | .exc x ρ2 => .exc x ρ2) else .next ρ1
theorem ps_whileM (n : Nat) {t : Expr} {body : List Stmt} {f : M Bool} {m : MS} {pos : Pos} (hp : PassesOwn (model X.prog X.w) X.A X.env X.xe) (ht : PT X t (tT c B W f)) (hb : PSs X body (tS c B W m)) : PS X (.While t body [] pos) (tS c B W (whileM f m n)) :=
  ps_imp (ps_while hp ht hb) fun Z σ H ⟨G, A, ρ, R, a⟩ => by
    refine ⟨fun n σ2 H2 => ∃ G2 A2 ρ2, Rel c B G2 A2 H2 σ2 ρ2 ∧ AfterS c B W G2 A2 H2 (whileM f m n ρ2) Z, ⟨n, G, A, ρ, R, a⟩, ?_⟩
    rintro n σ2 H2 ⟨G2, A2, ρ2, R2, a2⟩
    cases n with
    | zero => exact a2.elim
    | succ n =>
      unfold whileM at a2
      refine ⟨G2, A2, ρ2, R2, ?_⟩
      have a3 := (show AfterS c B W G2 A2 H2 (mDo f (fun b ρ1 => if b = true then (match m ρ1 with
        | .next ρ2 => whileM f m n ρ2
        | .cont ρ2 => whileM f m n ρ2
        | .brk ρ2 => .next ρ2
        | .stuck => .stuck
        | .ret d ρ2 => .ret d ρ2
        | .exc x ρ2 => .exc x ρ2) else .next ρ1) ρ2) Z from by
          unfold mDo
          cases e : f ρ2 <;> rw [e] at a2 <;> exact a2).split R2
      refine a3.imp fun b ρ3 G3 H3 _ _ R3 q => ite_prop (fun e => ?_) (fun e => ?_)
      · rw [if_pos e] at q
        refine ⟨fun σ4 H4 => ∃ G4 A4 ρ4, Rel c B G4 A4 H4 σ4 ρ4 ∧ AfterS c B W G4 A4 H4 (whileM f m n ρ4) Z, fun σ4 H4 q => ⟨n, Nat.lt_succ_self n, q⟩, G3, A2, ρ3, R3, ?_⟩
        cases em : m ρ3 with
        | stuck => rw [em] at q; exact q.elim
        | next ρ4 => rw [em] at q; exact fun G5 A5 H5 σ5 s5 R5 => ⟨G5, A5, ρ4, R5, AfterS.of R3.own_there s5 q⟩
        | cont ρ4 => rw [em] at q; exact fun G5 A5 H5 σ5 s5 R5 => ⟨G5, A5, ρ4, R5, AfterS.of R3.own_there s5 q⟩
        | brk ρ4 => rw [em] at q; exact fun G5 A5 H5 σ5 s5 R5 => q G5 A5 H5 σ5 s5 R5
        | ret d' ρ4 => rw [em] at q; exact q
        | exc x ρ4 => rw [em] at q; exact q
      · rw [if_neg (by rw [e]; exact Bool.false_ne_true)] at q
        exact q.nx R3
end
end Fx
set_option Elab.async false
set_option linter.all false
set_option maxRecDepth 100000
set_option maxHeartbeats 4000000
/-! Fx8: list comprehensions. -/
namespace Fx
open PySem L2
def wipeC (ρ : Cells) : List Nat → Cells
  | [] => ρ
  | v :: vs => (wipeC ρ vs).set v .no
def cellOr : Option Cell → Cell
  | some x => x
  | none => .no
def unwipe (ρ0 ρ : Cells) : List Nat → Cells
  | [] => ρ
  | v :: vs => (unwipe ρ0 ρ vs).set v (cellOr ρ0[v]?)
def isOwn : Option Cell → Bool
  | some (.own _) => true
  | _ => false
def lcM (g : TgM) (tt : M Bool) (fe : M D) (vs : List Nat) : List D → Cells → Option (List D × Cells)
  | [], ρ => some ([], ρ)
  | d :: ds, ρ => match g d (wipeC ρ vs) with
    | none => none
    | some ρ1 => match tt ρ1 with
      | .ok b ρ2 => if b = true then (match fe ρ2 with
        | .ok e ρ3 => (lcM g tt fe vs ds ρ3).map fun r => (e :: r.1, r.2)
        | _ => none) else lcM g tt fe vs ds ρ2
      | _ => none
def mLc (fi : M (List D)) (g : TgM) (tt : M Bool) (fe : M D) (vs : List Nat) : M D := fi.bind fun ds => fun ρ => if vs.all (fun v => !isOwn ρ[v]?) = true then (match lcM g tt fe vs ds ρ with
  | some (es, ρ') => .ok (.lst es) (unwipe ρ ρ' vs)
  | none => .stuck) else .stuck
theorem wipeC_len (ρ : Cells) : ∀ vs : List Nat, (wipeC ρ vs).length = ρ.length
  | [] => rfl
  | v :: vs => by unfold wipeC; rw [List.length_set, wipeC_len]
theorem unwipe_len (ρ0 ρ : Cells) : ∀ vs : List Nat, (unwipe ρ0 ρ vs).length = ρ.length
  | [] => rfl
  | v :: vs => by unfold unwipe; rw [List.length_set, unwipe_len]
theorem wipeC_out {ρ : Cells} {i : Nat} : ∀ {vs : List Nat}, i ∉ vs → (wipeC ρ vs)[i]? = ρ[i]?
  | [], _ => rfl
  | v :: vs, h => by
    simp only [List.mem_cons, not_or] at h
    unfold wipeC
    rw [List.getElem?_set_ne (Ne.symm h.1), wipeC_out h.2]
theorem wipeC_in {ρ : Cells} {i : Nat} : ∀ {vs : List Nat}, i ∈ vs → (wipeC ρ vs)[i]? = none ∨ (wipeC ρ vs)[i]? = some .no
  | v :: vs, h => by
    unfold wipeC
    by_cases z : v = i
    · subst z
      by_cases hl : v < (wipeC ρ vs).length
      · exact .inr (List.getElem?_set_self hl)
      · exact .inl (List.getElem?_eq_none (by rw [List.length_set]; omega))
    · rw [List.getElem?_set_ne z]
      rcases List.mem_cons.mp h with e | e
      · exact absurd e.symm z
      · exact wipeC_in e
theorem wipe_out {σ : L2.St} {i : Nat} : ∀ {vs : List Nat}, i ∉ vs → (wipe σ vs)[i]? = σ[i]?
  | [], _ => rfl
  | v :: vs, h => by
    simp only [List.mem_cons, not_or] at h
    unfold wipe
    rw [List.getElem?_set_ne (Ne.symm h.1), wipe_out h.2]
theorem wipe_in {σ : L2.St} {i : Nat} (hl : i < σ.length) : ∀ {vs : List Nat}, i ∈ vs → (wipe σ vs)[i]? = some none
  | v :: vs, h => by
    unfold wipe
    by_cases z : v = i
    · subst z; exact List.getElem?_set_self (by rw [wipe_length]; exact hl)
    · rw [List.getElem?_set_ne z]
      rcases List.mem_cons.mp h with e | e
      · exact absurd e.symm z
      · exact wipe_in hl e
theorem wipe_only {σ σ' : L2.St} {ts vs : List Nat} (h : Only ts (wipe σ vs) σ') (ht : ∀ t ∈ ts, t ∈ vs) : wipe σ' vs = wipe σ vs := by
  have hl : σ'.length = σ.length := h.1.trans (wipe_length σ vs)
  apply List.ext_getElem?
  intro i
  by_cases hi : i ∈ vs
  · by_cases hlt : i < σ.length
    · rw [wipe_in hlt hi, wipe_in (by rw [hl]; exact hlt) hi]
    · rw [List.getElem?_eq_none (by rw [wipe_length, hl]; omega), List.getElem?_eq_none (by rw [wipe_length]; omega)]
  · rw [wipe_out hi, h.2 i fun z => hi (ht i z)]
theorem unwipe_out {ρ0 ρ : Cells} {i : Nat} : ∀ {vs : List Nat}, i ∉ vs → (unwipe ρ0 ρ vs)[i]? = ρ[i]?
  | [], _ => rfl
  | v :: vs, h => by
    simp only [List.mem_cons, not_or] at h
    unfold unwipe
    rw [List.getElem?_set_ne (Ne.symm h.1), unwipe_out h.2]
theorem unwipe_in {ρ0 ρ : Cells} {i : Nat} (hl : i < ρ.length) : ∀ {vs : List Nat}, i ∈ vs → (unwipe ρ0 ρ vs)[i]? = some (cellOr ρ0[i]?)
  | v :: vs, h => by
    unfold unwipe
    by_cases z : v = i
    · subst z; exact List.getElem?_set_self (by rw [unwipe_len]; exact hl)
    · rw [List.getElem?_set_ne z]
      rcases List.mem_cons.mp h with e | e
      · exact absurd e.symm z
      · exact unwipe_in hl e
section
variable {c : Cf} {B : List (Nat × Addr)} {W : WX} {X : Cx} {G H : Hp} {A : Addr → Prop} {σ : L2.St} {ρ : Cells} {Z : Ends}
theorem Rel.wipe (R : Rel c B G A H σ ρ) {vs : List Nat} (hB : B.all (fun q => !vs.contains q.1) = true) : Rel c B G A H (wipe σ vs) (wipeC ρ vs) := by
  have nin : ∀ (i : Nat) (x : Cell), (wipeC ρ vs)[i]? = some x → x ≠ .no → i ∉ vs ∧ ρ[i]? = some x := fun i x h hx => by
    by_cases hi : i ∈ vs
    · rcases wipeC_in (ρ := ρ) hi with e | e
      · rw [e] at h; cases h
      · rw [e] at h; cases h; exact absurd rfl hx
    · exact ⟨hi, by rw [wipeC_out hi] at h; exact h⟩
  refine ⟨R.same, by rw [wipe_length, wipeC_len]; exact R.len, R.ownA, fun i d h => ?_, fun i d h => ?_, fun i j d e p hij h1 h2 h3 h4 => ?_, fun q hq => ?_⟩
  · obtain ⟨hi, h'⟩ := nin i _ h (fun z => by cases z)
    obtain ⟨v, h1, h2⟩ := R.dat i d h'
    exact ⟨v, by rw [wipe_out hi]; exact h1, h2⟩
  · obtain ⟨hi, h'⟩ := nin i _ h (fun z => by cases z)
    obtain ⟨v, h1, h2⟩ := R.own i d h'
    exact ⟨v, by rw [wipe_out hi]; exact h1, h2⟩
  · obtain ⟨hi, h1'⟩ := nin i _ h1 (fun z => by cases z)
    obtain ⟨hj, h2'⟩ := nin j _ h2 (fun z => by cases z)
    rw [wipe_out hi] at h3
    rw [wipe_out hj] at h4
    exact R.dis i j d e p hij h1' h2' h3 h4
  · obtain ⟨h1, h2, x, h3⟩ := R.byr q hq
    have hi : q.1 ∉ vs := by
      have := List.all_eq_true.mp hB q hq
      simpa using this
    exact ⟨by rw [wipe_out hi]; exact h1, h2, x, by rw [wipeC_out hi]; exact h3⟩
theorem Rel.unwipe (R : Rel c B G A H σ ρ) {G' H' : Hp} {ρ' : Cells} {vs : List Nat} (s : Same G G') (hv : vs.all (fun v => !isOwn ρ[v]?) = true) (hB : B.all (fun q => !vs.contains q.1) = true) (R' : Rel c B G' A H' (L2.wipe σ vs) (wipeC ρ' vs)) : Rel c B G' A H' σ (Fx.unwipe ρ ρ' vs) := by
  have hl : ρ'.length = σ.length := by
    have := R'.len
    rw [wipe_length, wipeC_len] at this
    exact this.symm
  have get : ∀ (i : Nat) (x : Cell), (Fx.unwipe ρ ρ' vs)[i]? = some x → x ≠ .no → (i ∈ vs ∧ ρ[i]? = some x ∧ ∀ d, x ≠ .own d) ∨ (i ∉ vs ∧ (wipeC ρ' vs)[i]? = some x) := fun i x h hx => by
    by_cases hi : i ∈ vs
    · have hlt : i < ρ'.length := by
        have := (List.getElem?_eq_some_iff.mp h).1
        rwa [unwipe_len] at this
      rw [unwipe_in hlt hi] at h
      refine .inl ⟨hi, ?_, fun d z => ?_⟩
      · cases e : ρ[i]? with
        | none => rw [e] at h; cases h; exact absurd rfl hx
        | some y => rw [e] at h; exact h
      · subst z
        have := List.all_eq_true.mp hv i hi
        cases e : ρ[i]? with
        | none => rw [e] at h; cases h
        | some y =>
          rw [e] at h this
          cases h
          cases this
    · exact .inr ⟨hi, by rw [wipeC_out hi]; rw [unwipe_out hi] at h; exact h⟩
  refine ⟨R'.same, by rw [unwipe_len, hl], R'.ownA, fun i d h => ?_, fun i d h => ?_, fun i j d e p hij h1 h2 h3 h4 => ?_, fun q hq => ?_⟩
  · rcases get i _ h (fun z => by cases z) with ⟨hi, h', _⟩ | ⟨hi, h'⟩
    · obtain ⟨v, h1, h2⟩ := R.dat i d h'
      exact ⟨v, h1, h2.mono s⟩
    · obtain ⟨v, h1, h2⟩ := R'.dat i d h'
      rw [wipe_out hi] at h1
      exact ⟨v, h1, h2⟩
  · rcases get i _ h (fun z => by cases z) with ⟨hi, h', n⟩ | ⟨hi, h'⟩
    · exact absurd rfl (n d)
    · obtain ⟨v, h1, h2⟩ := R'.own i d h'
      rw [wipe_out hi] at h1
      exact ⟨v, h1, h2⟩
  · rcases get i _ h1 (fun z => by cases z) with ⟨hi, h', n⟩ | ⟨hi, h1'⟩
    · exact absurd rfl (n d)
    · rcases get j _ h2 (fun z => by cases z) with ⟨hj, h', n⟩ | ⟨hj, h2'⟩
      · exact absurd rfl (n e)
      · exact R'.dis i j d e p hij h1' h2' (by rw [wipe_out hi]; exact h3) (by rw [wipe_out hj]; exact h4)
  · have hi : q.1 ∉ vs := by
      have := List.all_eq_true.mp hB q hq
      simpa using this
    obtain ⟨h1, h2, x, h3⟩ := R'.byr q hq
    rw [wipe_out hi] at h1
    rw [wipeC_out hi] at h3
    exact ⟨h1, h2, x, by rw [unwipe_out hi]; exact h3⟩
/-- a cell that nobody speaks of is changed, or forgotten -/
theorem Rel.other (R : Rel c B G A H σ ρ) {H' : Hp} {p : Addr} (gp : G p = none) (na : ¬ A p) (k : ∀ b, b ≠ p → H' b = H b) : Rel c B G A H' σ ρ := by
  refine ⟨fun b o e => ?_, R.len, fun b h => ?_, R.dat, fun i d h => ?_, R.dis, R.byr⟩
  · rw [k b (ne_of_none e gp)]; exact R.same b o e
  · obtain ⟨h1, o, h2⟩ := R.ownA b h
    exact ⟨h1, o, by rw [k b fun z => na (by rw [← z]; exact h)]; exact h2⟩
  · obtain ⟨q, h1, h2, h3⟩ := R.own i d h
    exact ⟨q, h1, h2, by rw [k q fun z => na (by rw [← z]; exact h2)]; exact h3⟩
abbrev W0 : WX := fun _ _ _ _ => False
/-- the heart of a comprehension -/
theorem lc_read {fi : M (List D)} {P : VP} {ts vs : List Nat} {g : TgM} {tt : M Bool} {fe : M D} {Q : VK} (ht : ts.all (fun t => vs.contains t) = true) (hB : B.all (fun q => !vs.contains q.1) = true) (h : tF c B W (mLc fi g tt fe vs) σ H Q) :
    tLc (tI c B W P fi) (tG c B P ts g) (tT c B W0 tt) (tM c B W0 fe) vs σ H Q := by
  have ht' : ∀ t ∈ ts, t ∈ vs := fun t h => by
    have := List.all_eq_true.mp ht t h
    simpa using this
  obtain ⟨G, A, ρ, R, a⟩ := h
  refine ⟨G, A, ρ, R, a.split.imp fun ds ρ1 G1 H1 _ _ R1 a1 J okJ D hD => ?_⟩
  cases hv : vs.all (fun v => !isOwn ρ1[v]?) with
  | false => 
    have a1 : After c B W G1 A H1 σ (if vs.all (fun v => !isOwn ρ1[v]?) = true then (match lcM g tt fe vs ds ρ1 with | some (es, ρ') => Out.ok (Fx.D.lst es) (Fx.unwipe ρ1 ρ' vs) | none => .stuck) else .stuck) _ := a1
    rw [if_neg (by rw [hv]; exact Bool.false_ne_true)] at a1
    exact a1.elim
  | true =>
    have a1 : After c B W G1 A H1 σ (if vs.all (fun v => !isOwn ρ1[v]?) = true then (match lcM g tt fe vs ds ρ1 with | some (es, ρ') => Out.ok (Fx.D.lst es) (Fx.unwipe ρ1 ρ' vs) | none => .stuck) else .stuck) _ := a1
    rw [if_pos hv] at a1
    cases hl : lcM g tt fe vs ds ρ1 with
    | none => rw [hl] at a1; exact a1.elim
    | some r =>
      obtain ⟨es, ρe⟩ := r
      rw [hl] at a1
      have gD : G1 D = none := R1.same.free hD
      have nD : ¬ A D := fun z => by obtain ⟨_, o, q⟩ := R1.ownA D z; rw [hD] at q; cases q
      refine ⟨fun i n H2 => n = ds.length - i ∧ i ≤ ds.length ∧ ∃ G2 ρ2 acc es1 es2, Same G1 G2 ∧ G2 D = none ∧ Keep A G1 H1 G2 H2 ∧ Rel c B G2 A H2 (L2.wipe σ vs) (wipeC ρ2 vs) ∧ H2 D = some (.lst acc) ∧ RepL c G2 acc es1 ∧ acc.length ≤ i ∧
        lcM g tt fe vs (ds.drop i) ρ2 = some (es2, ρe) ∧ es1 ++ es2 = es, ⟨_, rfl, Nat.zero_le _, G1, ρ1, [], [], es, Same.refl _, gD, fun b o e n => ⟨by rw [upd_ne (ne_of_none e hD)]; exact e, rfl⟩, (R1.other gD nD fun b hb => upd_ne hb).wipe hB, upd_same, .nil, Nat.le_refl _, hl, rfl⟩, ?_⟩
      rintro i n H2 ⟨rfl, hi, G2, ρ2, acc, es1, es2, s2, g2, k2, R2, hacc, racc, hlen, hlc, hes⟩
      by_cases hlt : i < ds.length
      · refine .inr ⟨okJ.go i H2 hlt (s2.trans R2.same), fun H' => ∃ G2 ρ2 acc es1 es2, Same G1 G2 ∧ G2 D = none ∧ Keep A G1 H1 G2 H' ∧ Rel c B G2 A H' (L2.wipe σ vs) (wipeC ρ2 vs) ∧ H' D = some (.lst acc) ∧ RepL c G2 acc es1 ∧ acc.length ≤ i + 1 ∧
          lcM g tt fe vs (ds.drop (i + 1)) ρ2 = some (es2, ρe) ∧ es1 ++ es2 = es, fun H' q => ⟨_, by omega, rfl, hlt, q⟩, fun x H3 hy => ?_⟩
        obtain ⟨G3, d, e1, x3, pr⟩ := okJ.yld i G2 H2 x H3 hlt s2 R2.same hy
        have R3 := R2.ext x3
        have hacc3 := x3.hh D _ hacc
        have g3 : G3 D = none := (x3.new D _ hacc).trans g2
        have k3 : Keep A G1 H1 G3 H3 := k2.trans x3.keep
        have ed : ds.drop i = d :: ds.drop (i + 1) := by
          rw [List.drop_eq_getElem_cons hlt]
          congr 1
          rw [List.getElem?_eq_getElem hlt] at e1
          exact Option.some.inj e1
        rw [ed] at hlc
        unfold lcM at hlc
        cases eg : g d (wipeC ρ2 vs) with
        | none => rw [eg] at hlc; cases hlc
        | some ρ3 =>
          rw [eg] at hlc
          refine ⟨G3, A, _, d, ρ3, R3, pr, eg, fun σ4 R4 o4 => ⟨wipe_only o4 ht', G3, A, ρ3, R4, ?_⟩⟩
          have ew := wipe_only o4 ht'
          cases et : tt ρ3 with
          | stuck => simp only [et] at hlc; cases hlc
          | exc x r => simp only [et] at hlc; cases hlc
          | ok b ρ4 =>
            simp only [et] at hlc
            intro G4 H4 s4 k4 R5
            have hacc4 := k4 D _ hacc3 nD
            refine ite_prop (fun eb => ?_) (fun eb => ?_)
            · rw [if_pos eb] at hlc
              refine ⟨G4, A, ρ4, R5, ?_⟩
              cases ef : fe ρ4 with
              | stuck => simp only [ef] at hlc; cases hlc
              | exc x r => simp only [ef] at hlc; cases hlc
              | ok e ρ5 =>
                simp only [ef] at hlc
                intro G5 H5 s5 k5 R6 v rv
                have hacc5 := k5 D _ hacc4.1 nD
                cases er : lcM g tt fe vs (ds.drop (i + 1)) ρ5 with
                | none => rw [er] at hlc; cases hlc
                | some r =>
                  obtain ⟨es3, ρe'⟩ := r
                  rw [er] at hlc
                  have hlc' : some (e :: es3, ρe') = some (es2, ρe) := hlc
                  cases hlc'
                  have g5 : G5 D = none := hacc5.2.trans (hacc4.2.trans g3)
                  have hsl := okJ.len
                  refine ⟨acc, hacc5.1, by omega, G5, ρ5, acc ++ [v], es1 ++ [e], es3, s2.trans (x3.gg.trans (s4.trans s5)), g5, ?_, ?_, upd_same, (racc.mono (x3.gg.trans (s4.trans s5))).append (.one rv), by rw [List.length_append]; simp; exact hlen, er, by rw [List.append_assoc]; exact hes⟩
                  · intro b o hb hn
                    have q := (k3.trans (k4.trans k5)) b o hb hn
                    exact ⟨by rw [upd_ne (ne_of_none hb hD)]; exact q.1, q.2⟩
                  · rw [← ew]
                    exact (R6.other g5 nD fun b hb => upd_ne hb).wipe hB
            · rw [if_neg (by rw [eb]; exact Bool.false_ne_true)] at hlc
              refine ⟨G4, ρ4, acc, es1, es2, s2.trans (x3.gg.trans s4), hacc4.2.trans g3, k3.trans k4, ?_, hacc4.1, racc.mono (x3.gg.trans s4), by omega, hlc, hes⟩
              rw [← ew]
              exact R5.wipe hB
      · have ei : i = ds.length := by omega
        subst ei
        rw [List.drop_length] at hlc
        cases hlc
        rw [List.append_nil] at hes
        subst hes
        have R3 : Rel c B G2 A (fun b => if b = D then none else H2 b) (L2.wipe σ vs) (wipeC ρe vs) := R2.other g2 nD fun b hb => if_neg hb
        have R4 := R1.unwipe s2 hv hB R3
        refine .inl ⟨okJ.stop H2 (s2.trans R2.same), a1 G2 _ s2 (fun b o hb hn => ?_) R4 D H2 (if_pos rfl) (fun b o hb => ?_) ⟨acc, hacc, racc⟩⟩
        · have q := k2 b o hb hn
          exact ⟨by show (if b = D then none else H2 b) = some o; rw [if_neg (ne_of_none hb hD)]; exact q.1, q.2⟩
        · have hb : (if b = D then none else H2 b) = some o := hb
          by_cases z : b = D
          · rw [if_pos z] at hb; cases hb
          · rw [if_neg z] at hb; exact hb
theorem pts_nilM : PTs X [] (tT c B W (M.pure true)) := ⟨fun pins s σ H Q I ⟨G, A, ρ, R, a⟩ => pts_nil.run pins s σ H Q I (After.ok a R)⟩
theorem pts_oneM {t : Expr} {f : M Bool} (h : PT X t (tT c B W f)) : PTs X [t] (tT c B W f) := pts_one h
theorem pf_lc {elt tg iter : Expr} {ifs : List Expr} {scope : Scope} (own : List (Str × Nat)) {pos : Pos} {fi : M (List D)} {P : VP} {ts : List Nat} {g : TgM} {tt : M Bool} {fe : M D} (hc : X.calm = true) (hN : X.N.Nodup) (hi : PI X tg iter (tI c B W P fi)) (ok : BlkOk X.N X.env.scope scope own)
    (ht : ts.all (fun t => (own.map (·.2)).contains t) = true) (hB : B.all (fun q => !(own.map (·.2)).contains q.1) = true)
    (hg : ∀ (s : Shared) (H : Hp) (C : Addr) (cl : List (Str × Addr)) (fp : List Addr), PG (X.blk s H scope (compEnvC scope cl C X.env) fp) tg (tG c B P ts g)) (htt : ∀ (s : Shared) (H : Hp) (C : Addr) (cl : List (Str × Addr)) (fp : List Addr), PTs (X.blk s H scope (compEnvC scope cl C X.env) fp) ifs (tT c B W0 tt))
    (he : ∀ (s : Shared) (H : Hp) (C : Addr) (cl : List (Str × Addr)) (fp : List Addr), PE (X.blk s H scope (compEnvC scope cl C X.env) fp) elt (tM c B W0 fe)) (hs : ∀ x, foldedSetIterable iter X.env x = pure x := by intro _; rfl) :
    PE X (.ListComp elt [⟨tg, iter, ifs, 0⟩] scope pos) (tF c B W (mLc fi g tt fe (own.map (·.2)))) :=
  pe_imp (pe_lc hc hN hi ok hg htt he hs) fun σ H Q h => lc_read ht hB h
/-- y = [..] on one line, y a local that no inner block reads -/
theorem ps_asgLc (i : Nat) {y : Str} {py : Pos} {elt tg iter : Expr} {ifs : List Expr} {scope : Scope} (own : List (Str × Nat)) {pos spos : Pos} {fi : M (List D)} {P : VP} {ts : List Nat} {g : TgM} {tt : M Bool} {fe : M D} (hc : X.calm = true) (hN : X.N.Nodup) (hy : X.N[i]? = some y) (hyl : X.env.scope.names.lookup y = some .local)
    (hsw : swapsWith (.ListComp elt [⟨tg, iter, ifs, 0⟩] scope pos) (some (.Name y py)) spos.line X.env = pure true) (hb : B.all (fun q => q.1 != i) = true) (hi : PI X tg iter (tI c B W P fi)) (ok : BlkOk X.N X.env.scope scope own)
    (ht : ts.all (fun t => (own.map (·.2)).contains t) = true) (hB : B.all (fun q => !(own.map (·.2)).contains q.1) = true)
    (hg : ∀ (s : Shared) (H : Hp) (C : Addr) (cl : List (Str × Addr)) (fp : List Addr), PG (X.blk s H scope (compEnvC scope cl C X.env) fp) tg (tG c B P ts g)) (htt : ∀ (s : Shared) (H : Hp) (C : Addr) (cl : List (Str × Addr)) (fp : List Addr), PTs (X.blk s H scope (compEnvC scope cl C X.env) fp) ifs (tT c B W0 tt))
    (he : ∀ (s : Shared) (H : Hp) (C : Addr) (cl : List (Str × Addr)) (fp : List Addr), PE (X.blk s H scope (compEnvC scope cl C X.env) fp) elt (tM c B W0 fe)) (hs : ∀ x, foldedSetIterable iter X.env x = pure x := by intro _; rfl) :
    PS X (.Assign [.Name y py] (.ListComp elt [⟨tg, iter, ifs, 0⟩] scope pos) spos) (tS c B W (mAsg (mLc fi g tt fe (own.map (·.2))) (gNm i))) :=
  ps_imp (ps_setLc hc hN hy hyl hsw hi ok hg htt he hs) fun Z σ H ⟨G, A, ρ, R, a⟩ => by
    refine lc_read (W := W) ht hB ⟨G, A, ρ, R, (a.split R).imp fun d ρ' G' H' _ _ R' q p H2 hp hh ho => ?_⟩
    obtain ⟨G2, x2, r2⟩ := ext_own R'.same hp hh ho
    exact AfterS.nx (AfterS.of R'.own_there (Stp.same x2.gg x2.keep) q) ((R'.ext x2).setDat r2 hb)
theorem ps_newLc (i : Nat) {y : Str} {py : Pos} {elt tg iter : Expr} {ifs : List Expr} {scope : Scope} (own : List (Str × Nat)) {pos spos : Pos} {fi : M (List D)} {P : VP} {ts : List Nat} {g : TgM} {tt : M Bool} {fe : M D} (hc : X.calm = true) (hN : X.N.Nodup) (hy : X.N[i]? = some y) (hyl : X.env.scope.names.lookup y = some .local)
    (hsw : swapsWith (.ListComp elt [⟨tg, iter, ifs, 0⟩] scope pos) (some (.Name y py)) spos.line X.env = pure true) (hb : B.all (fun q => q.1 != i) = true) (hi : PI X tg iter (tI c B W P fi)) (ok : BlkOk X.N X.env.scope scope own)
    (ht : ts.all (fun t => (own.map (·.2)).contains t) = true) (hB : B.all (fun q => !(own.map (·.2)).contains q.1) = true)
    (hg : ∀ (s : Shared) (H : Hp) (C : Addr) (cl : List (Str × Addr)) (fp : List Addr), PG (X.blk s H scope (compEnvC scope cl C X.env) fp) tg (tG c B P ts g)) (htt : ∀ (s : Shared) (H : Hp) (C : Addr) (cl : List (Str × Addr)) (fp : List Addr), PTs (X.blk s H scope (compEnvC scope cl C X.env) fp) ifs (tT c B W0 tt))
    (he : ∀ (s : Shared) (H : Hp) (C : Addr) (cl : List (Str × Addr)) (fp : List Addr), PE (X.blk s H scope (compEnvC scope cl C X.env) fp) elt (tM c B W0 fe)) (hs : ∀ x, foldedSetIterable iter X.env x = pure x := by intro _; rfl) :
    PS X (.Assign [.Name y py] (.ListComp elt [⟨tg, iter, ifs, 0⟩] scope pos) spos) (tS c B W (mNew (mLc fi g tt fe (own.map (·.2))) i)) :=
  ps_imp (ps_setLc hc hN hy hyl hsw hi ok hg htt he hs) fun Z σ H ⟨G, A, ρ, R, a⟩ => by
    refine lc_read (W := W) ht hB ⟨G, A, ρ, R, (a.split R).imp fun d ρ' G' H' _ _ R' q p H2 hp hh ho => ?_⟩
    have R2 := R'.newOwn hp hh ho hb
    exact q G' _ H2 _ ⟨Same.refl _, fun b o h _ => ⟨hh b o h, rfl⟩, fun b h => h.elim .inl fun z => .inr (by rw [z]; exact hp)⟩ R2
end
end Fx
set_option Elab.async false
set_option linter.all false
set_option maxRecDepth 100000
set_option maxHeartbeats 4000000
/-! Fx9: calls of defs; what a def keeps. -/
namespace Fx
open PySem L2
inductive FOut where
  | stuck | ret (d : D) (outs : List D) | exc (x : Exc) (outs : List D)
abbrev Fn := List D → FOut
/-- the arguments as they lie; bs: the places by reference -/
structure ArgsOk (c : Cf) (bs : List Nat) (G : Hp) (A : Addr → Prop) (H : Hp) (vs : List V) (ds : List D) : Prop where
  same : Same G H
  ownA : ∀ b, A b → G b = none ∧ ∃ o, H b = some o
  len : vs.length = ds.length
  dat : ∀ (i : Nat) (d : D), ds[i]? = some d → i ∉ bs → ∃ v, vs[i]? = some v ∧ Rep c G v d
  own : ∀ (i : Nat) (d : D), ds[i]? = some d → i ∈ bs → ∃ p, vs[i]? = some (.ref p) ∧ A p ∧ Own c G (H p) d
  dis : ∀ (i j : Nat) (p : Addr), i ≠ j → i ∈ bs → j ∈ bs → vs[i]? = some (.ref p) → vs[j]? = some (.ref p) → False
def Outs (c : Cf) (bs : List Nat) (G H : Hp) (vs : List V) (outs : List D) : Prop := outs.length = bs.length ∧ ∀ (k i : Nat) (d : D), bs[k]? = some i → outs[k]? = some d → ∃ p, vs[i]? = some (.ref p) ∧ Own c G (H p) d
/-- behind a call -/
structure Ret (c : Cf) (bs : List Nat) (G : Hp) (A : Addr → Prop) (H : Hp) (vs : List V) (outs : List D) (G' H' : Hp) : Prop where
  gg : Same G G'
  kp : Keep A G H G' H'
  gh : Same G' H'
  ownA : ∀ b, A b → G' b = none ∧ ∃ o, H' b = some o
  outs : Outs c bs G' H' vs outs
def AfterF (c : Cf) (bs : List Nat) (G : Hp) (A : Addr → Prop) (H : Hp) (vs : List V) (o : FOut) (Q : VK) (E : XK) : Prop := match o with
  | .stuck => False
  | .ret d outs => ∀ G' H' v, Ret c bs G A H vs outs G' H' → Rep c G' v d → Q v H'
  | .exc x outs => ∀ G' H' dd, Ret c bs G A H vs outs G' H' → ExcAt c G' x dd → E (.ref (c.exc x.c)) (some dd) H'
/-- a def keeps its meaning F -/
def spM (c : Cf) (bs : List Nat) (n : Nat) (F : Fn) : Sp := fun vs H Q E => ∃ G A ds, ds.length = n ∧ ArgsOk c bs G A H vs ds ∧ AfterF c bs G A H vs (F ds) Q E

/-! ### the call -/
def ownPos : Nat → List Opn → List Nat
  | _, [] => []
  | n, .dat _ :: os => ownPos (n + 1) os
  | n, .own _ :: os => n :: ownPos (n + 1) os
def ownSlots : List Opn → List Nat
  | [] => []
  | .dat _ :: os => ownSlots os
  | .own k :: os => k :: ownSlots os
def rdA : List Opn → List D → Cells → Option (List D)
  | [], [], _ => some []
  | .dat _ :: os, a :: as, ρ => (rdA os as ρ).map fun ds => a :: ds
  | .own k :: os, _ :: as, ρ => match ρ[k]? with
    | some (.own d) => (rdA os as ρ).map fun ds => d :: ds
    | _ => none
  | _, _, _ => none
def setOuts : List Nat → List D → Cells → Cells
  | k :: ks, o :: outs, ρ => setOuts ks outs (ρ.set k (.own o))
  | _, _, ρ => ρ
def mCallF (F : Fn) (os : List Opn) : M D := (preL os).bind fun as => fun ρ => match rdA os as ρ with
  | none => .stuck
  | some ds => match F ds with
    | .stuck => .stuck
    | .ret d outs => .ok d (setOuts (ownSlots os) outs ρ)
    | .exc x outs => .exc x (setOuts (ownSlots os) outs ρ)
inductive ArgV (c : Cf) (G : Hp) (σ : L2.St) : List Opn → List D → List V → Prop
  | nil : ArgV c G σ [] [] []
  | dat {f : M D} {os as vs a v} : Rep c G v a → ArgV c G σ os as vs → ArgV c G σ (.dat f :: os) (a :: as) (v :: vs)
  | own {k : Nat} {v : V} {os as vs a} : σ[k]? = some (some v) → ArgV c G σ os as vs → ArgV c G σ (.own k :: os) (a :: as) (v :: vs)
theorem ArgV.mono {c : Cf} {G G' : Hp} {σ : L2.St} (e : Same G G') : ∀ {os as vs}, ArgV c G σ os as vs → ArgV c G' σ os as vs
  | _, _, _, .nil => .nil
  | _, _, _, .dat r t => .dat (r.mono e) (t.mono e)
  | _, _, _, .own r t => .own r (t.mono e)
def tR (c : Cf) (B : List (Nat × Addr)) (W : WX) (os : List Opn) : TA := fun σ H Q => ∃ G A ρ, Rel c B G A H σ ρ ∧ After c B W G A H σ (preL os ρ) fun as _ G' H' => ∀ vs, ArgV c G' σ os as vs → Q vs H'
section
variable {c : Cf} {B : List (Nat × Addr)} {W : WX} {X : Cx} {G H : Hp} {A : Addr → Prop} {σ : L2.St} {ρ : Cells}
theorem pr_nil : PA X [] (tR c B W []) := pa_imp pa_nil fun σ H Q ⟨G, A, ρ, R, a⟩ => After.ok a R [] .nil
theorem pr_dat {e : Expr} {es : List Expr} {f : M D} {os : List Opn} (ha : PE X e (tM c B W f)) (hr : PA X es (tR c B W os)) (hs : starEach (e :: es) X.env = (false, eval e X.env) :: starEach es X.env := by rfl) : PA X (e :: es) (tR c B W (.dat f :: os)) :=
  pa_imp (pa_cons ha hr hs) fun σ H Q ⟨G, A, ρ, R, a⟩ => by
    refine ⟨G, A, ρ, R, (show After c B W G A H σ ((f.bind _) ρ) _ from a).split.imp fun d ρ1 G1 H1 _ _ R1 a1 v r => ?_⟩
    refine ⟨G1, A, ρ1, R1, a1.split.imp fun ds ρ2 G2 H2 s2 _ R2 a2 vs rs => ?_⟩
    exact After.ok a2 R2 (v :: vs) (.dat (r.mono s2) rs)
theorem pr_own (i : Nat) {x : Str} {pos : Pos} {es : List Expr} {os : List Opn} (hr : PA X es (tR c B W os)) (hN : X.N[i]? = some x := by rfl) (hv : Vis X.env.scope x := by first | exact Or.inl rfl | exact Or.inr (Or.inl rfl) | exact Or.inr (Or.inr rfl)) (hd : (x == ("__debug__" : Str)) = false := by decide)
    (hcd : (x == ("__classdict__" : Str)) = false := by decide) (hs : starEach (.Name x pos :: es) X.env = (false, eval (.Name x pos) X.env) :: starEach es X.env := by rfl) : PA X (.Name x pos :: es) (tR c B W (.own i :: os)) :=
  pa_imp (pa_cons (pe_var hN hv hd hcd) hr hs) fun σ H Q ⟨G, A, ρ, R, a⟩ => by
    have a' := (show After c B W G A H σ (((Opn.own i).pre.bind _) ρ) _ from a).split
    unfold Opn.pre at a'
    cases e : cellD ρ[i]? with
    | none => simp only [e] at a'; exact a'.elim
    | some d =>
      simp only [e] at a'
      obtain ⟨v, hv, o⟩ := R.cell e
      refine ⟨v, hv, G, A, ρ, R, (After.ok a' R).split.imp fun ds ρ2 G2 H2 s2 k2 R2 q vs rs => ?_⟩
      exact After.ok q R2 (v :: vs) (.own hv rs)
theorem wOwn_all (R : Rel c B G A H σ ρ) : ∀ b, A b → G b = none ∧ ∃ o, H b = some o := R.ownA
/-- the addresses that a call may change -/
def callA (σ : L2.St) (ks : List Nat) : Addr → Prop := fun b => ∃ k ∈ ks, σ[k]? = some (some (.ref b))
theorem mem_ownPos : ∀ {os : List Opn} {n i : Nat}, i ∈ ownPos n os → n ≤ i
  | .dat _ :: os, n, i, h => by have := mem_ownPos (os := os) (n := n + 1) h; omega
  | .own _ :: os, n, i, h => by
    rcases List.mem_cons.mp h with e | e
    · omega
    · have := mem_ownPos (os := os) (n := n + 1) e; omega
/-- the arguments as the callee finds them -/
theorem argV_at (R : Rel c B G A H σ ρ) : ∀ {os : List Opn} {as ds : List D} {vs : List V} (n : Nat), ArgV c G σ os as vs → rdA os as ρ = some ds →
    vs.length = ds.length ∧ vs.length = os.length ∧ (∀ (i : Nat) (d : D), ds[i]? = some d → n + i ∉ ownPos n os → ∃ v, vs[i]? = some v ∧ Rep c G v d) ∧
      (∀ (i : Nat) (d : D), ds[i]? = some d → n + i ∈ ownPos n os → ∃ k p, k ∈ ownSlots os ∧ σ[k]? = some (some (.ref p)) ∧ ρ[k]? = some (.own d) ∧ vs[i]? = some (.ref p) ∧ A p ∧ Own c G (H p) d)
  | _, _, _, _, n, .nil, h => by cases h; exact ⟨rfl, rfl, fun i d e => by simp at e, fun i d e => by simp at e⟩
  | _, _, ds, _, n, @ArgV.dat _ _ _ f os as vs a v r t, h => by
    unfold rdA at h
    cases e : rdA os as ρ with
    | none => rw [e] at h; cases h
    | some ds' =>
      rw [e] at h
      cases h
      obtain ⟨h1, h2, h3, h4⟩ := argV_at R (n + 1) t e
      refine ⟨by simp [h1], by simp [h2], fun i d hd hn => ?_, fun i d hd hn => ?_⟩
      · cases i with
        | zero => simp at hd; subst hd; exact ⟨v, rfl, r⟩
        | succ i =>
          obtain ⟨w, k1, k2⟩ := h3 i d (by simpa using hd) (fun z => hn (by show n + (i + 1) ∈ ownPos (n + 1) os; rw [show n + (i + 1) = n + 1 + i by omega]; exact z))
          exact ⟨w, by simpa using k1, k2⟩
      · cases i with
        | zero => have := mem_ownPos (os := os) (n := n + 1) (i := n + 0) hn; omega
        | succ i =>
          obtain ⟨k, p, q1, q2, q3, q4, q5⟩ := h4 i d (by simpa using hd) (by have hn' : n + (i + 1) ∈ ownPos (n + 1) os := hn; rw [show n + (i + 1) = n + 1 + i by omega] at hn'; exact hn')
          exact ⟨k, p, q1, q2, q3, by simpa using q4, q5⟩
  | _, _, ds, _, n, @ArgV.own _ _ _ k v os as vs a r t, h => by
    unfold rdA at h
    cases ek : ρ[k]? with
    | none => simp only [ek] at h; cases h
    | some cl =>
      simp only [ek] at h
      cases cl with
      | no => cases h
      | dat d => cases h
      | own d0 =>
        obtain ⟨p, es, hA, hO⟩ := R.own k d0 ek
        rw [r] at es; cases es
        cases e : rdA os as ρ with
        | none => simp only [e] at h; cases h
        | some ds' =>
          simp only [e] at h
          cases h
          obtain ⟨h1, h2, h3, h4⟩ := argV_at R (n + 1) t e
          refine ⟨by simp [h1], by simp [h2], fun i d hd hn => ?_, fun i d hd hn => ?_⟩
          · cases i with
            | zero => exact absurd (List.mem_cons_self : n ∈ n :: ownPos (n + 1) os) hn
            | succ i =>
              obtain ⟨w, k1, k2⟩ := h3 i d (by simpa using hd) (fun z => hn (List.mem_cons_of_mem _ (by rw [show n + (i + 1) = n + 1 + i by omega]; exact z)))
              exact ⟨w, by simpa using k1, k2⟩
          · cases i with
            | zero => simp at hd; subst hd; exact ⟨k, p, List.mem_cons_self, r, ek, rfl, hA, hO⟩
            | succ i =>
              have hn' : n + (i + 1) ∈ n :: ownPos (n + 1) os := hn
              rcases List.mem_cons.mp hn' with e | e
              · omega
              · rw [show n + (i + 1) = n + 1 + i by omega] at e
                obtain ⟨k, p, q1, q2, q3, q4, q5⟩ := h4 i d (by simpa using hd) e
                exact ⟨k, p, List.mem_cons_of_mem _ q1, q2, q3, by simpa using q4, q5⟩
/-- the outs go to the slots -/
theorem argV_slots : ∀ {os : List Opn} {as : List D} {vs : List V} (n : Nat), ArgV c G σ os as vs → ∀ (j i : Nat), (ownPos n os)[j]? = some i → ∃ k v, (ownSlots os)[j]? = some k ∧ n ≤ i ∧ vs[i - n]? = some v ∧ σ[k]? = some (some v)
  | _, _, _, n, .nil, j, i, h => by simp [ownPos] at h
  | _, _, _, n, @ArgV.dat _ _ _ f os as vs a v r t, j, i, h => by
    obtain ⟨k, w, h1, h2, h3, h4⟩ := argV_slots (n + 1) t j i h
    refine ⟨k, w, h1, by omega, ?_, h4⟩
    rw [show i - n = (i - (n + 1)) + 1 by omega]
    simpa using h3
  | _, _, _, n, @ArgV.own _ _ _ k v os as vs a r t, 0, i, h => by
    have h' : some n = some i := h
    cases h'
    exact ⟨k, v, rfl, Nat.le_refl _, by simp, r⟩
  | _, _, _, n, @ArgV.own _ _ _ k v os as vs a r t, j + 1, i, h => by
    obtain ⟨k', w, h1, h2, h3, h4⟩ := argV_slots (n + 1) t j i (by simpa [ownPos] using h)
    refine ⟨k', w, by simpa [ownSlots] using h1, by omega, ?_, h4⟩
    rw [show i - n = (i - (n + 1)) + 1 by omega]
    simpa using h3
theorem setOuts_len : ∀ (ks : List Nat) (outs : List D) (ρ : Cells), (setOuts ks outs ρ).length = ρ.length
  | [], _, _ => rfl
  | _ :: _, [], _ => rfl
  | k :: ks, o :: outs, ρ => by unfold setOuts; rw [setOuts_len, List.length_set]
theorem setOuts_out : ∀ {ks : List Nat} {outs : List D} {ρ : Cells} {i : Nat}, i ∉ ks → (setOuts ks outs ρ)[i]? = ρ[i]?
  | [], _, _, _, _ => rfl
  | _ :: _, [], _, _, _ => rfl
  | k :: ks, o :: outs, ρ, i, h => by
    simp only [List.mem_cons, not_or] at h
    unfold setOuts
    rw [setOuts_out h.2, List.getElem?_set_ne (Ne.symm h.1)]
theorem setOuts_in : ∀ {ks : List Nat} {outs : List D} {ρ : Cells} {i : Nat}, ks.Nodup → ks.length = outs.length → i ∈ ks → i < ρ.length → ∃ (j : Nat) (d : D), ks[j]? = some i ∧ outs[j]? = some d ∧ (setOuts ks outs ρ)[i]? = some (.own d)
  | k :: ks, o :: outs, ρ, i, nd, hl, h, hi => by
    obtain ⟨n1, n2⟩ := List.nodup_cons.mp nd
    unfold setOuts
    rcases List.mem_cons.mp h with e | e
    · subst e
      exact ⟨0, o, rfl, rfl, by rw [setOuts_out n1, List.getElem?_set_self hi]⟩
    · obtain ⟨j, d, h1, h2, h3⟩ := setOuts_in (ρ := ρ.set k (.own o)) n2 (by simpa using hl) e (by rw [List.length_set]; exact hi)
      exact ⟨j + 1, d, by simpa using h1, by simpa using h2, h3⟩
/-- behind a call the cells are as the outs say -/
theorem Rel.ret (R : Rel c B G A H σ ρ) {os : List Opn} {as : List D} {ds outs : List D} {vs : List V} {G' H' : Hp} (nd : (ownSlots os).Nodup) (hv : ArgV c G σ os as vs) (hd : rdA os as ρ = some ds) (hr : Ret c (ownPos 0 os) G (callA σ (ownSlots os)) H vs outs G' H') :
    Same G G' ∧ Keep A G H G' H' ∧ Rel c B G' A H' σ (setOuts (ownSlots os) outs ρ) := by
  have sub : ∀ b, callA σ (ownSlots os) b → ∃ k d, k ∈ ownSlots os ∧ σ[k]? = some (some (.ref b)) ∧ ρ[k]? = some (.own d) ∧ A b := by
    intro b ⟨k, hk, hs⟩
    have : ∀ {os : List Opn} {as : List D} {vs : List V} {ds : List D}, ArgV c G σ os as vs → rdA os as ρ = some ds → k ∈ ownSlots os → ∃ d, ρ[k]? = some (.own d) := by
      intro os as vs ds hv
      induction hv generalizing ds with
      | nil => intro _ h; cases h
      | @dat f os as vs a v r t ih =>
        intro h hk
        unfold rdA at h
        cases e : rdA os as ρ with
        | none => rw [e] at h; cases h
        | some ds' => exact ih e hk
      | @own k' v os as vs a r t ih =>
        intro h hk
        unfold rdA at h
        cases ek : ρ[k']? with
        | none => simp only [ek] at h; cases h
        | some cl =>
          simp only [ek] at h
          cases cl with
          | no => cases h
          | dat d => cases h
          | own d0 =>
            cases e : rdA os as ρ with
            | none => simp only [e] at h; cases h
            | some ds' =>
              rcases List.mem_cons.mp hk with z | z
              · subst z; exact ⟨d0, ek⟩
              · exact ih e z
    obtain ⟨d, e⟩ := this hv hd hk
    obtain ⟨p, es, hA, _⟩ := R.own k d e
    rw [hs] at es; cases es
    exact ⟨k, d, hk, hs, e, hA⟩
  have kp : Keep A G H G' H' := fun b o h n => hr.kp b o h fun z => by obtain ⟨_, _, _, _, _, q⟩ := sub b z; exact n q
  refine ⟨hr.gg, kp, hr.gh, by rw [setOuts_len]; exact R.len, fun b hb => ?_, fun i d h => ?_, fun i d h => ?_, fun i j d e p hij h1 h2 h3 h4 => ?_, fun q hq => ?_⟩
  · by_cases z : callA σ (ownSlots os) b
    · exact hr.ownA b z
    · obtain ⟨h1, o, h2⟩ := R.ownA b hb
      obtain ⟨k1, k2⟩ := hr.kp b o h2 z
      exact ⟨k2.trans h1, o, k1⟩
  · have ni : i ∉ ownSlots os := fun z => by
      have hl : (ownSlots os).length = outs.length := by
        have h1 := hr.outs.1
        have h2 : ∀ (n : Nat) (os : List Opn), (ownPos n os).length = (ownSlots os).length := by
          intro n os
          induction os generalizing n with
          | nil => rfl
          | cons o os ih => cases o with
            | dat f => exact ih (n + 1)
            | own k => show _ + 1 = _ + 1; rw [ih (n + 1)]
        rw [← h2 0 os, h1]
      have hi : i < ρ.length := by
        have := (List.getElem?_eq_some_iff.mp h).1
        rwa [setOuts_len] at this
      obtain ⟨j, d', _, _, h3⟩ := setOuts_in nd hl z hi
      rw [h3] at h; cases h
    rw [setOuts_out ni] at h
    obtain ⟨v, h1, h2⟩ := R.dat i d h
    exact ⟨v, h1, h2.mono hr.gg⟩
  · have hlen : ∀ (n : Nat) (os : List Opn), (ownPos n os).length = (ownSlots os).length := by
      intro n os
      induction os generalizing n with
      | nil => rfl
      | cons o os ih => cases o with
        | dat f => exact ih (n + 1)
        | own k => show _ + 1 = _ + 1; rw [ih (n + 1)]
    have hl : (ownSlots os).length = outs.length := by rw [← hlen 0 os, hr.outs.1]
    by_cases z : i ∈ ownSlots os
    · have hi : i < ρ.length := by
        have := (List.getElem?_eq_some_iff.mp h).1
        rwa [setOuts_len] at this
      obtain ⟨j, d', h1, h2, h3⟩ := setOuts_in nd hl z hi
      rw [h3] at h; cases h
      have hj : j < (ownPos 0 os).length := by rw [hlen]; exact (List.getElem?_eq_some_iff.mp h1).1
      obtain ⟨k, v, k1, k2, k3, k4⟩ := argV_slots 0 hv j _ (List.getElem?_eq_getElem hj)
      rw [h1] at k1; cases k1
      obtain ⟨p, p1, p2⟩ := hr.outs.2 j _ d (List.getElem?_eq_getElem hj) h2
      rw [Nat.sub_zero] at k3
      rw [p1] at k3; cases k3
      obtain ⟨_, _, _, _, _, hA⟩ := sub p ⟨i, z, k4⟩
      exact ⟨p, k4, hA, p2⟩
    · rw [setOuts_out z] at h
      obtain ⟨p, h1, h2, h3⟩ := R.own i d h
      have np : ¬ callA σ (ownSlots os) p := fun w => by
        obtain ⟨k, e, q1, q2, q3, _⟩ := sub p w
        exact R.dis i k d e p (fun y => z (by rw [y]; exact q1)) h q3 h1 q2
      obtain ⟨u, hu⟩ := h3.some
      obtain ⟨k1, k2⟩ := hr.kp p u hu np
      exact ⟨p, h1, h2, by rw [k1, ← hu]; exact h3.mono hr.gg⟩
  · have old : ∀ (i : Nat) (d : D), (setOuts (ownSlots os) outs ρ)[i]? = some (.own d) → ∃ d', ρ[i]? = some (.own d') := fun i d h => by
      by_cases z : i ∈ ownSlots os
      · have hi : i < ρ.length := by
          have := (List.getElem?_eq_some_iff.mp h).1
          rwa [setOuts_len] at this
        have : ∀ {os : List Opn} {as : List D} {vs : List V} {ds : List D}, ArgV c G σ os as vs → rdA os as ρ = some ds → i ∈ ownSlots os → ∃ d, ρ[i]? = some (.own d) := by
          intro os as vs ds hv
          induction hv generalizing ds with
          | nil => intro _ h; cases h
          | @dat f os as vs a v r t ih =>
            intro h hk
            unfold rdA at h
            cases e : rdA os as ρ with
            | none => rw [e] at h; cases h
            | some ds' => exact ih e hk
          | @own k' v os as vs a r t ih =>
            intro h hk
            unfold rdA at h
            cases ek : ρ[k']? with
            | none => simp only [ek] at h; cases h
            | some cl =>
              simp only [ek] at h
              cases cl with
              | no => cases h
              | dat d => cases h
              | own d0 =>
                cases e : rdA os as ρ with
                | none => simp only [e] at h; cases h
                | some ds' =>
                  rcases List.mem_cons.mp hk with z | z
                  · subst z; exact ⟨d0, ek⟩
                  · exact ih e z
        exact this hv hd z
      · rw [setOuts_out z] at h; exact ⟨d, h⟩
    obtain ⟨d', h1'⟩ := old i d h1
    obtain ⟨e', h2'⟩ := old j e h2
    exact R.dis i j d' e' p hij h1' h2' h3 h4
  · obtain ⟨h1, h2, x, h3⟩ := R.byr q hq
    refine ⟨h1, h2, ?_⟩
    by_cases z : q.1 ∈ ownSlots os
    · have hi : q.1 < ρ.length := (List.getElem?_eq_some_iff.mp h3).1
      have hlen : ∀ (n : Nat) (os : List Opn), (ownPos n os).length = (ownSlots os).length := by
        intro n os
        induction os generalizing n with
        | nil => rfl
        | cons o os ih => cases o with
          | dat f => exact ih (n + 1)
          | own k => show _ + 1 = _ + 1; rw [ih (n + 1)]
      obtain ⟨j, d', _, _, h5⟩ := setOuts_in (ρ := ρ) nd (by rw [← hlen 0 os, hr.outs.1]) z hi
      exact ⟨d', h5⟩
    · exact ⟨x, by rw [setOuts_out z]; exact h3⟩
/-- what a call asks -/
theorem args_ok (R : Rel c B G A H σ ρ) {os : List Opn} {as : List D} {ds : List D} {vs : List V} (nd : (ownSlots os).Nodup) (hv : ArgV c G σ os as vs) (hd : rdA os as ρ = some ds) : ArgsOk c (ownPos 0 os) G (callA σ (ownSlots os)) H vs ds := by
  obtain ⟨h1, h2, h3, h4⟩ := argV_at R 0 hv hd
  have aa : ∀ b, callA σ (ownSlots os) b → A b := by
    intro b ⟨k, hk, hs⟩
    have : ∀ {os : List Opn} {as : List D} {vs : List V} {ds : List D}, ArgV c G σ os as vs → rdA os as ρ = some ds → k ∈ ownSlots os → ∃ d, ρ[k]? = some (.own d) := by
      intro os as vs ds hv
      induction hv generalizing ds with
      | nil => intro _ h; cases h
      | @dat f os as vs a v r t ih =>
        intro h hk
        unfold rdA at h
        cases e : rdA os as ρ with
        | none => rw [e] at h; cases h
        | some ds' => exact ih e hk
      | @own k' v os as vs a r t ih =>
        intro h hk
        unfold rdA at h
        cases ek : ρ[k']? with
        | none => simp only [ek] at h; cases h
        | some cl =>
          simp only [ek] at h
          cases cl with
          | no => cases h
          | dat d => cases h
          | own d0 =>
            cases e : rdA os as ρ with
            | none => simp only [e] at h; cases h
            | some ds' =>
              rcases List.mem_cons.mp hk with z | z
              · subst z; exact ⟨d0, ek⟩
              · exact ih e z
    obtain ⟨d, e⟩ := this hv hd hk
    obtain ⟨p, es, hA, _⟩ := R.own k d e
    rw [hs] at es; cases es
    exact hA
  refine ⟨R.same, fun b hb => R.ownA b (aa b hb), h1, fun i d hi hn => h3 i d hi (by rw [Nat.zero_add]; exact hn), fun i d hi hn => ?_, fun i j p hij hi hj e1 e2 => ?_⟩
  · obtain ⟨k, p, q1, q2, q3, q4, q5, q6⟩ := h4 i d hi (by rw [Nat.zero_add]; exact hn)
    exact ⟨p, q4, ⟨k, q1, q2⟩, q6⟩
  · obtain ⟨a, ha⟩ := List.mem_iff_getElem?.mp hi
    obtain ⟨b, hb⟩ := List.mem_iff_getElem?.mp hj
    obtain ⟨k, v, k1, _, k3, k4⟩ := argV_slots 0 hv a i ha
    obtain ⟨l, w, l1, _, l3, l4⟩ := argV_slots 0 hv b j hb
    rw [Nat.sub_zero, e1] at k3; cases k3
    rw [Nat.sub_zero, e2] at l3; cases l3
    have li : i < ds.length := by rw [← h1]; exact (List.getElem?_eq_some_iff.mp e1).1
    have lj : j < ds.length := by rw [← h1]; exact (List.getElem?_eq_some_iff.mp e2).1
    obtain ⟨k', p', _, k6, k7, k8, _⟩ := h4 i _ (List.getElem?_eq_getElem li) (by rw [Nat.zero_add]; exact hi)
    obtain ⟨l', p'', _, l6, l7, l8, _⟩ := h4 j _ (List.getElem?_eq_getElem lj) (by rw [Nat.zero_add]; exact hj)
    rw [e1] at k8; cases k8
    rw [e2] at l8; cases l8
    have kl : k ≠ l := fun z => by
      subst z
      have := nd_ix nd k1 l1
      subst this
      rw [ha] at hb; cases hb; exact hij rfl
    -- both slots own the same address
    have own_at : ∀ (k : Nat), k ∈ ownSlots os → ∃ d, ρ[k]? = some (.own d) := by
      intro k hk
      have : ∀ {os : List Opn} {as : List D} {vs : List V} {ds : List D}, ArgV c G σ os as vs → rdA os as ρ = some ds → k ∈ ownSlots os → ∃ d, ρ[k]? = some (.own d) := by
        intro os as vs ds hv
        induction hv generalizing ds with
        | nil => intro _ h; cases h
        | @dat f os as vs a v r t ih =>
          intro h hk
          unfold rdA at h
          cases e : rdA os as ρ with
          | none => rw [e] at h; cases h
          | some ds' => exact ih e hk
        | @own k' v os as vs a r t ih =>
          intro h hk
          unfold rdA at h
          cases ek : ρ[k']? with
          | none => simp only [ek] at h; cases h
          | some cl =>
            simp only [ek] at h
            cases cl with
            | no => cases h
            | dat d => cases h
            | own d0 =>
              cases e : rdA os as ρ with
              | none => simp only [e] at h; cases h
              | some ds' =>
                rcases List.mem_cons.mp hk with z | z
                · subst z; exact ⟨d0, ek⟩
                · exact ih e z
      exact this hv hd hk
    obtain ⟨d1, f1⟩ := own_at k (List.mem_of_getElem? k1)
    obtain ⟨d2, f2⟩ := own_at l (List.mem_of_getElem? l1)
    exact R.dis k l d1 d2 p kl f1 f2 k4 l4
end
end Fx
set_option Elab.async false
set_option linter.all false
set_option maxRecDepth 100000
set_option maxHeartbeats 4000000
/-! Fx10: the rule for a call, the rule for a def. -/
namespace Fx
open PySem L2
section
variable {c : Cf} {B : List (Nat × Addr)} {W : WX} {X : Cx} {G H : Hp} {A : Addr → Prop} {σ : L2.St} {ρ : Cells}
/-- further data behind the arguments -/
theorem ArgsOk.app {bs : List Nat} {vs ws : List V} {ds es : List D} (h : ArgsOk c bs G A H vs ds) (r : RepL c G ws es) (hb : ∀ i ∈ bs, i < ds.length) : ArgsOk c bs G A H (vs ++ ws) (ds ++ es) := by
  refine ⟨h.same, h.ownA, by rw [List.length_append, List.length_append, h.len, r.length], fun i d e n => ?_, fun i d e n => ?_, fun i j p hij hi hj e1 e2 => ?_⟩
  · by_cases hi : i < ds.length
    · rw [List.getElem?_append_left hi] at e
      obtain ⟨v, h1, h2⟩ := h.dat i d e n
      exact ⟨v, by rw [List.getElem?_append_left (by rw [h.len]; exact hi)]; exact h1, h2⟩
    · rw [List.getElem?_append_right (by omega)] at e
      obtain ⟨v, h1, h2⟩ := r.get e
      exact ⟨v, by rw [List.getElem?_append_right (by rw [h.len]; omega), h.len]; exact h1, h2⟩
  · have hi := hb i n
    rw [List.getElem?_append_left hi] at e
    obtain ⟨p, h1, h2⟩ := h.own i d e n
    exact ⟨p, by rw [List.getElem?_append_left (by rw [h.len]; exact hi)]; exact h1, h2⟩
  · rw [List.getElem?_append_left (by rw [h.len]; exact hb i hi)] at e1
    rw [List.getElem?_append_left (by rw [h.len]; exact hb j hj)] at e2
    exact h.dis i j p hij hi hj e1 e2
theorem Ret.app {bs : List Nat} {vs ws : List V} {outs : List D} {G' H' : Hp} (hb : ∀ i ∈ bs, i < vs.length) (h : Ret c bs G A H (vs ++ ws) outs G' H') : Ret c bs G A H vs outs G' H' :=
  ⟨h.gg, h.kp, h.gh, h.ownA, h.outs.1, fun k i d e1 e2 => by
    obtain ⟨p, h1, h2⟩ := h.outs.2 k i d e1 e2
    rw [List.getElem?_append_left (hb i (List.mem_of_getElem? e1))] at h1
    exact ⟨p, h1, h2⟩⟩
theorem ownPos_lt {os : List Opn} : ∀ {n i : Nat}, i ∈ ownPos n os → i < n + os.length := by
  induction os with
  | nil => intro n i h; cases h
  | cons o os ih =>
    intro n i h
    cases o with
    | dat f => have := ih (n := n + 1) h; rw [List.length_cons]; omega
    | own k =>
      rcases List.mem_cons.mp h with e | e
      · rw [List.length_cons]; omega
      · have := ih (n := n + 1) e; rw [List.length_cons]; omega
theorem rdA_len : ∀ {os : List Opn} {as ds : List D} {ρ : Cells}, rdA os as ρ = some ds → ds.length = os.length
  | [], [], _, _, h => by cases h; rfl
  | [], _ :: _, _, _, h => by cases h
  | .dat _ :: _, [], _, _, h => by cases h
  | .own _ :: _, [], _, _, h => by cases h
  | .dat _ :: os, a :: as, ds, ρ, h => by
    unfold rdA at h
    cases e : rdA os as ρ with
    | none => rw [e] at h; cases h
    | some ds' => rw [e] at h; cases h; rw [List.length_cons, List.length_cons, rdA_len e]
  | .own k :: os, _ :: as, ds, ρ, h => by
    unfold rdA at h
    cases ek : ρ[k]? with
    | none => simp only [ek] at h; cases h
    | some cl =>
      simp only [ek] at h
      cases cl with
      | no => cases h
      | dat d => cases h
      | own d0 =>
        cases e : rdA os as ρ with
        | none => simp only [e] at h; cases h
        | some ds' => simp only [e] at h; cases h; rw [List.length_cons, List.length_cons, rdA_len e]
/-- f(e, ..), the defaults behind -/
theorem pm_callF {F : Fn} {os : List Opn} {k n : Nat} {f : Addr} {fd : FuncData} {ps : List Str} {dvs : List V} {vds : List Value} {dds : List D} {x : Str} {p pos : Pos} {e : Expr} {es : List Expr}
    (Fo : FnOk X.prog X.w X.K X.mg X.base (L2.CX X.prog X.w) k f fd ps (spM c (ownPos 0 os) n F)) (hr : Room k X.A) (tk : Takes X W) (hm : X.mg x = some (.ref f)) (hk : PySem.W.keepIn X.K (.ref f) = true) (hb : Binds X.K fd ps vds) (hd : Vals dvs vds) (hdd : ∀ G, RepL c G dvs dds)
    (ha : PA X (e :: es) (tR c B W os)) (nd : (ownSlots os).Nodup := by decide) (hn : os.length + dds.length = n := by rfl) (hg : Gl X x := by rfl) (hdb : (x == ("__debug__" : Str)) = false := by decide)
    (he : starEach (e :: es) X.env = (false, eval e X.env) :: starEach es X.env := by rfl) (hpl : (backTo pos (starEach es X.env)).any (·.1) = false := by rfl) :
    PE X (.Call (.Name x p) (e :: es) [] pos) (tM c B W (mCallF (fun ds => F (ds ++ dds)) os)) :=
  pe_imp (pe_callSD Fo hr hg hm hk hb hd (fun σ => passAt tk σ) ha hdb he hpl) fun σ H Q ⟨G, A, ρ, R, a⟩ => by
    refine ⟨G, A, ρ, R, a.split.imp fun as ρ1 G1 H1 _ _ R1 q vs hv => ?_⟩
    have q : After c B W G1 A H1 σ (match rdA os as ρ1 with
      | none => .stuck
      | some ds => match F (ds ++ dds) with
        | .stuck => .stuck
        | .ret d outs => .ok d (setOuts (ownSlots os) outs ρ1)
        | .exc x outs => .exc x (setOuts (ownSlots os) outs ρ1)) (fun d x G' H' => ∀ v, Rep c G' v d → Q v H') := q
    cases ed : rdA os as ρ1 with
    | none => rw [ed] at q; exact q.elim
    | some ds =>
      rw [ed] at q
      have ok := args_ok R1 nd hv ed
      have hlen := rdA_len ed
      have hlt : ∀ i ∈ ownPos 0 os, i < ds.length := fun i hi => by have := ownPos_lt hi; rw [hlen]; omega
      have hlv : ∀ i ∈ ownPos 0 os, i < vs.length := fun i hi => by rw [ok.len]; exact hlt i hi
      refine ⟨G1, _, ds ++ dds, by rw [List.length_append, hlen]; exact hn, ok.app (hdd G1) hlt, ?_⟩
      cases ef : F (ds ++ dds) with
      | stuck => simp only [ef] at q; exact q.elim
      | ret d outs =>
        simp only [ef] at q
        intro G' H' v r rv
        obtain ⟨s1, k1, R2⟩ := R1.ret nd hv ed (r.app hlv)
        exact q G' H' s1 k1 R2 v rv
      | exc y outs =>
        simp only [ef] at q
        intro G' H' dd r rx
        obtain ⟨s1, k1, R2⟩ := R1.ret nd hv ed (r.app hlv)
        exact q G' H' dd s1 k1 R2 rx
/-- keywords -/
theorem pkd_nil : PK X [] (tD c B W []) := ⟨fun pos pins s σ H Q I ⟨G, A, ρ, R, a⟩ => pk_nil.run pos pins s σ H Q I (After.ok a R [] .nil)⟩
theorem pkd_cons {nm : Option Str} {e : Expr} {kpos : Pos} {kws : List Keyword} {f : M D} {fs : List (M D)} (ha : PE X e (tM c B W f)) (hr : PK X kws (tD c B W fs)) : PK X (⟨nm, e, kpos⟩ :: kws) (tD c B W (f :: fs)) :=
  ⟨fun pos pins s σ H Q I ⟨G, A, ρ, R, a⟩ => (pk_cons ha hr).run pos pins s σ H Q I (by
    refine ⟨G, A, ρ, R, a.split.imp fun d ρ1 G1 H1 _ _ R1 a1 v r => ?_⟩
    refine ⟨G1, A, ρ1, R1, a1.split.imp fun ds ρ2 G2 H2 s2 _ R2 a2 vs rs => ?_⟩
    exact After.ok a2 R2 (v :: vs) (.cons (r.mono s2) rs))⟩
def tCallNS (n m : Nat) (sp : Sp) (gV : List V → List V → List V) (E : L2.St → XK) (t tk : TA) : TE := fun σ H Q => t σ H fun vs H1 => tk σ H1 fun zs H2 => vs.length = n ∧ zs.length = m ∧ sp (gV vs zs) H2 Q (E σ)
theorem pe_callNS {CX : CXT} {k n : Nat} {f : Addr} {fd : FuncData} {ps ks : List Str} {sp : Sp} {E : L2.St → XK} {x : Str} {p pos : Pos} {e : Expr} {es : List Expr} {kws : List Keyword} {t tk : TA} {g : List Value → List Value → List Value} {gV : List V → List V → List V}
    (F : FnOk X.prog X.w X.K X.mg X.base CX k f fd ps sp) (hr : Room k X.A) (hg : Gl X x) (hm : X.mg x = some (.ref f)) (hk : PySem.W.keepIn X.K (.ref f) = true) (hb : KBn X.K fd ps n ks g gV) (hx : ∀ σ, PassesAt CX X σ (E σ))
    (ha : PA X (e :: es) t) (hkw : PK X kws tk) (hall : (backToKw pos (keywordEach kws X.env)).all (·.1.isSome) = true := by rfl) (hks : (backToKw pos (keywordEach kws X.env)).filterMap (·.1) = ks := by rfl)
    (hdb : (x == ("__debug__" : Str)) = false := by decide) (he : starEach (e :: es) X.env = (false, eval e X.env) :: starEach es X.env := by rfl)
    (hpl : ((backTo pos (starEach (e :: es) X.env)).any (·.1) || (backToKw pos (keywordEach kws X.env)).any (·.1.isNone)) = false := by rfl) :
    PE X (.Call (.Name x p) (e :: es) kws pos) (tCallNS n ks.length sp gV E t tk) := by
  refine ⟨fun pins s σ H Q I h => ?_⟩
  refine wpAny_Call_Name_kw (ld_glob I hg hm ?_ hdb)
  refine PySem.W.callWith_KW (h₀ := X.base) I.ok.mod.kin hk hall (thn (ha.run pos pins s σ H _ I h) fun us s1 ⟨vs, H1, I1, r, q⟩ => ?_) hpl he
  refine thn (hkw.run pos pins s1 σ H1 _ I1 q) fun ws s2 ⟨zs, H2, I2, rz, l1, l2, q2⟩ => ⟨I2.kIn, ?_⟩
  rw [hks]
  have r2 := hb.rel r rz
  refine wpAny_call (codeAny_mono (F.run X.A X.stack s2 H2 ⟨us, ks.zip ws⟩ (g us ws) (gV vs zs) Q (E σ) hr I2.env0 (hb.to s2 us ws I2.kIn (r.length.symm.trans l1) (rz.length.symm.trans l2)) r2 q2) fun r s' hq => ?_)
  cases r with
  | error e => exact hx σ pins H2 s2 e s' I2 hq
  | ok fl =>
    cases fl with
    | ret u => exact I2.after hq
    | next => exact False.elim hq
    | brk => exact False.elim hq
    | cont => exact False.elim hq
def appF (F : Fn) (ds : List D) : M D := fun ρ => match F ds with
  | .stuck => .stuck
  | .ret d _ => .ok d ρ
  | .exc x _ => .exc x ρ
def mCallK (F : Fn) (g : List D → List D → List D) (fs ks : List (M D)) : M D := (seqM fs).bind fun ds => (seqM ks).bind fun es => appF F (g ds es)
theorem argsOk_rep (s : Same G H) {vs : List V} {ds : List D} (r : RepL c G vs ds) : ArgsOk c [] G (fun _ => False) H vs ds :=
  ⟨s, fun _ h => h.elim, r.length, fun i d e _ => r.get e, fun i d e n => by simp at n, fun i j p _ hi => by simp at hi⟩
theorem Ret.rel (R : Rel c B G A H σ ρ) {vs : List V} {outs : List D} {G' H' : Hp} (r : Ret c [] G (fun _ => False) H vs outs G' H') : Same G G' ∧ Keep A G H G' H' ∧ Rel c B G' A H' σ ρ := by
  have hh : ∀ b o, H b = some o → H' b = some o ∧ G' b = G b := fun b o e => r.kp b o e (fun z => z)
  exact ⟨r.gg, fun b o e _ => hh b o e, R.ext ⟨r.gg, fun b o e => (hh b o e).1, r.gh, fun b o e => (hh b o e).2⟩⟩
theorem pm_callK {F : Fn} {fs gs : List (M D)} {k n m : Nat} {f : Addr} {fd : FuncData} {ps ks : List Str} {x : Str} {p pos : Pos} {e : Expr} {es : List Expr} {kws : List Keyword} {g : List Value → List Value → List Value} {gV : List V → List V → List V} {gD : List D → List D → List D}
    (Fo : FnOk X.prog X.w X.K X.mg X.base (L2.CX X.prog X.w) k f fd ps (spM c [] m F)) (hr : Room k X.A) (tk : Takes X W) (hm : X.mg x = some (.ref f)) (hk : PySem.W.keepIn X.K (.ref f) = true) (hb : KBn X.K fd ps n ks g gV)
    (hgD : ∀ G vs zs ds es, vs.length = n → zs.length = ks.length → RepL c G vs ds → RepL c G zs es → RepL c G (gV vs zs) (gD ds es) ∧ (gD ds es).length = m)
    (ha : PA X (e :: es) (tD c B W fs)) (hkw : PK X kws (tD c B W gs)) (hn : fs.length = n := by rfl) (hn2 : gs.length = ks.length := by rfl) (hg : Gl X x := by rfl) (hall : (backToKw pos (keywordEach kws X.env)).all (·.1.isSome) = true := by rfl) (hks : (backToKw pos (keywordEach kws X.env)).filterMap (·.1) = ks := by rfl)
    (hdb : (x == ("__debug__" : Str)) = false := by decide) (he : starEach (e :: es) X.env = (false, eval e X.env) :: starEach es X.env := by rfl)
    (hpl : ((backTo pos (starEach (e :: es) X.env)).any (·.1) || (backToKw pos (keywordEach kws X.env)).any (·.1.isNone)) = false := by rfl) :
    PE X (.Call (.Name x p) (e :: es) kws pos) (tM c B W (mCallK F gD fs gs)) :=
  pe_imp (pe_callNS Fo hr hg hm hk hb (fun σ => passAt tk σ) ha hkw hall hks hdb he hpl) fun σ H Q ⟨G, A, ρ, R, a⟩ => by
    refine ⟨G, A, ρ, R, a.split.len.imp fun ds ρ1 G1 H1 _ _ R1 ⟨hl, a1⟩ vs rv => ?_⟩
    refine ⟨G1, A, ρ1, R1, a1.split.len.imp fun es ρ2 G2 H2 s2 _ R2 ⟨hl2, a2⟩ zs rz => ?_⟩
    have l1 : vs.length = n := by rw [rv.length, hl, hn]
    have l2 : zs.length = ks.length := by rw [rz.length, hl2, hn2]
    obtain ⟨q1, q2⟩ := hgD G2 vs zs ds es l1 l2 (rv.mono s2) rz
    refine ⟨l1, l2, G2, _, _, q2, argsOk_rep R2.same q1, ?_⟩
    unfold appF at a2
    cases ef : F (gD ds es) with
    | stuck => rw [ef] at a2; exact a2.elim
    | ret d outs =>
      rw [ef] at a2
      intro G' H' v r rv
      obtain ⟨s1, k1, R3⟩ := r.rel R2
      exact a2 G' H' s1 k1 R3 v rv
    | exc y outs =>
      rw [ef] at a2
      intro G' H' dd r rx
      obtain ⟨s1, k1, R3⟩ := r.rel R2
      exact a2 G' H' dd s1 k1 R3 rx
end

/-! ### a def -/
def initAt (bs : List Nat) : Nat → List D → Cells
  | _, [] => []
  | i, d :: ds => (if bs.contains i = true then Cell.own d else Cell.dat d) :: initAt bs (i + 1) ds
def initC (len : Nat) (bs : List Nat) (ds : List D) : Cells := initAt bs 0 ds ++ List.replicate (len - ds.length) .no
def outAt (ρ : Cells) (i : Nat) : D := match ρ[i]? with
  | some (Cell.own d) => d
  | _ => D.non
def outsOf (bs : List Nat) (ρ : Cells) : List D := bs.map (outAt ρ)
def mkFn (len : Nat) (bs : List Nat) (m : MS) : Fn := fun ds => match m (initC len bs ds) with
  | .next ρ => .ret .non (outsOf bs ρ)
  | .ret d ρ => .ret d (outsOf bs ρ)
  | .exc x ρ => .exc x (outsOf bs ρ)
  | _ => .stuck
theorem initAt_get (bs : List Nat) : ∀ (n i : Nat) (ds : List D) (x : Cell), (initAt bs n ds)[i]? = some x → ∃ d, ds[i]? = some d ∧ x = if bs.contains (n + i) = true then Cell.own d else Cell.dat d
  | n, i, [], x, h => by simp [initAt] at h
  | n, 0, d :: ds, x, h => by
    simp [initAt] at h
    exact ⟨d, rfl, by rw [Nat.add_zero]; simp [← h]⟩
  | n, i + 1, d :: ds, x, h => by
    obtain ⟨e, h1, h2⟩ := initAt_get bs (n + 1) i ds x (by simpa [initAt] using h)
    exact ⟨e, by simpa using h1, by rw [show n + (i + 1) = n + 1 + i by omega]; exact h2⟩
theorem initAt_put (bs : List Nat) : ∀ (n i : Nat) (ds : List D) (d : D), ds[i]? = some d → (initAt bs n ds)[i]? = some (if bs.contains (n + i) = true then Cell.own d else Cell.dat d)
  | n, i, [], d, h => by simp at h
  | n, 0, e :: ds, d, h => by simp at h; subst h; rfl
  | n, i + 1, e :: ds, d, h => by
    have := initAt_put bs (n + 1) i ds d (by simpa using h)
    rw [show n + (i + 1) = n + 1 + i by omega]
    simpa [initAt] using this
theorem initAt_len (bs : List Nat) : ∀ (n : Nat) (ds : List D), (initAt bs n ds).length = ds.length
  | _, [] => rfl
  | n, d :: ds => by unfold initAt; rw [List.length_cons, List.length_cons, initAt_len]
section
variable {c : Cf} {G H : Hp} {A : Addr → Prop}
theorem initC_get {len : Nat} {bs : List Nat} {ds : List D} {i : Nat} {x : Cell} (h : (initC len bs ds)[i]? = some x) (hx : x ≠ .no) : ∃ d, ds[i]? = some d ∧ i < ds.length ∧ x = if bs.contains i = true then Cell.own d else Cell.dat d := by
  unfold initC at h
  by_cases hi : i < ds.length
  · rw [List.getElem?_append_left (by rw [initAt_len]; exact hi)] at h
    obtain ⟨d, h1, h2⟩ := initAt_get bs 0 i ds x h
    exact ⟨d, h1, hi, by rw [Nat.zero_add] at h2; exact h2⟩
  · rw [List.getElem?_append_right (by rw [initAt_len]; omega)] at h
    have := List.mem_of_getElem? h
    exact absurd (List.eq_of_mem_replicate this) hx
/-- the cells at a def's start -/
theorem rel_start {N : List Str} {bs : List Nat} {vs : List V} {ds : List D} (h : ArgsOk c bs G A H vs ds) (hl : vs.length ≤ N.length) (B : List (Nat × Addr)) (hB : ∀ q ∈ B, q.1 ∈ bs ∧ vs[q.1]? = some (.ref q.2)) (hbs : ∀ i ∈ bs, i < ds.length) :
    Rel c B G (fun b => ∃ i ∈ bs, vs[i]? = some (.ref b)) H (L2.start N vs) (initC N.length bs ds) := by
  have st : ∀ (i : Nat) (v : V), vs[i]? = some v → (L2.start N vs)[i]? = some (some v) := fun i v e => by
    have hi := (List.getElem?_eq_some_iff.mp e).1
    unfold L2.start
    rw [List.getElem?_append_left (by rw [List.length_map]; exact hi), List.getElem?_map, e]
    rfl
  have aa : ∀ b, (∃ i ∈ bs, vs[i]? = some (V.ref b)) → A b := fun b ⟨i, hi, e⟩ => by
    have hlt := hbs i hi
    obtain ⟨p, h1, h2, _⟩ := h.own i _ (List.getElem?_eq_getElem hlt) hi
    rw [e] at h1; cases h1; exact h2
  refine ⟨h.same, ?_, fun b hb => h.ownA b (aa b hb), fun i d e => ?_, fun i d e => ?_, fun i j d e p hij h1 h2 h3 h4 => ?_, fun q hq => ?_⟩
  · unfold L2.start initC
    rw [List.length_append, List.length_append, List.length_map, List.length_replicate, List.length_replicate, initAt_len, h.len]
  · obtain ⟨d', h1, hi, h2⟩ := initC_get e (fun z => by cases z)
    by_cases hb : bs.contains i = true
    · rw [if_pos hb] at h2; cases h2
    · rw [if_neg hb] at h2; cases h2
      obtain ⟨v, k1, k2⟩ := h.dat i d h1 (fun z => hb (by simpa using z))
      exact ⟨v, st i v k1, k2⟩
  · obtain ⟨d', h1, hi, h2⟩ := initC_get e (fun z => by cases z)
    by_cases hb : bs.contains i = true
    · rw [if_pos hb] at h2; cases h2
      have hm : i ∈ bs := by simpa using hb
      obtain ⟨p, k1, k2, k3⟩ := h.own i d h1 hm
      exact ⟨p, st i _ k1, ⟨i, hm, k1⟩, k3⟩
    · rw [if_neg hb] at h2; cases h2
  · obtain ⟨d', e1, hi, f1⟩ := initC_get h1 (fun z => by cases z)
    obtain ⟨e', e2, hj, f2⟩ := initC_get h2 (fun z => by cases z)
    have hb1 : bs.contains i = true := by
      by_cases hb : bs.contains i = true
      · exact hb
      · rw [if_neg hb] at f1; cases f1
    have hb2 : bs.contains j = true := by
      by_cases hb : bs.contains j = true
      · exact hb
      · rw [if_neg hb] at f2; cases f2
    have hm1 : i ∈ bs := by simpa using hb1
    have hm2 : j ∈ bs := by simpa using hb2
    obtain ⟨p1, k1, _⟩ := h.own i d' e1 hm1
    obtain ⟨p2, k2, _⟩ := h.own j e' e2 hm2
    have q1 := st i _ k1
    have q2 := st j _ k2
    rw [h3] at q1; cases q1
    rw [h4] at q2; cases q2
    exact h.dis i j p hij hm1 hm2 k1 k2
  · obtain ⟨h1, h2⟩ := hB q hq
    have hlt := hbs q.1 h1
    refine ⟨st _ _ h2, ⟨q.1, h1, h2⟩, ds[q.1], ?_⟩
    · unfold initC
      rw [List.getElem?_append_left (by rw [initAt_len]; exact hlt), initAt_put bs 0 q.1 ds _ (List.getElem?_eq_getElem hlt), Nat.zero_add, if_pos (by simpa using h1)]
/-- behind a body -/
theorem ret_of {bs : List Nat} {vs : List V} {ds : List D} {B : List (Nat × Addr)} {G' H' : Hp} {A' : Addr → Prop} {σ' : L2.St} {ρ' : Cells} (h : ArgsOk c bs G A H vs ds) (hbs : ∀ i ∈ bs, i < ds.length) (hB : ∀ i ∈ bs, ∃ p, (i, p) ∈ B ∧ vs[i]? = some (.ref p))
    (s : Stp G (fun b => ∃ i ∈ bs, vs[i]? = some (.ref b)) H G' A' H') (R : Rel c B G' A' H' σ' ρ') : Ret c bs G A H vs (outsOf bs ρ') G' H' := by
  have aa : ∀ b, (∃ i ∈ bs, vs[i]? = some (V.ref b)) → A b := fun b ⟨i, hi, e⟩ => by
    have hlt := hbs i hi
    obtain ⟨p, h1, h2, _⟩ := h.own i _ (List.getElem?_eq_getElem hlt) hi
    rw [e] at h1; cases h1; exact h2
  refine ⟨s.gg, fun b o e n => s.kp b o e fun z => n (aa b z), R.same, fun b hb => ?_, by unfold outsOf; rw [List.length_map], fun k i d e1 e2 => ?_⟩
  · by_cases z : ∃ i ∈ bs, vs[i]? = some (V.ref b)
    · obtain ⟨i, hi, e⟩ := z
      obtain ⟨p, hp, e'⟩ := hB i hi
      rw [e] at e'; cases e'
      exact R.ownA b (R.byr _ hp).2.1
    · obtain ⟨h1, o, h2⟩ := h.ownA b hb
      obtain ⟨k1, k2⟩ := s.kp b o h2 z
      exact ⟨k2.trans h1, o, k1⟩
  · have hi : i ∈ bs := List.mem_of_getElem? e1
    obtain ⟨p, hp, e⟩ := hB i hi
    obtain ⟨q1, q2, x, q3⟩ := R.byr _ hp
    have ed : d = x := by
      unfold outsOf at e2
      rw [List.getElem?_map, e1] at e2
      have e2 : some (match ρ'[i]? with | some (Cell.own d) => d | _ => D.non) = some d := e2
      have q3 : ρ'[i]? = some (.own x) := q3
      rw [q3] at e2
      exact (Option.some.inj e2).symm
    subst ed
    obtain ⟨p', h1, h2, h3⟩ := R.own i d q3
    rw [show σ'[i]? = some (some (V.ref p)) from q1] at h1
    cases h1
    exact ⟨p, e, h3⟩
end
section
variable {P : Program} {w : World} {K : PySem.W.Frag} {mg : Str → Option Value} {base : Heap} {c : Cf}
/-- THE RULE for a def: its body's meaning is m -/
theorem fn_ok {x qual : Str} {st : Stmt} {f : Addr} {fd : FuncData} {N ps : List Str} {k : Nat} {dvs : List V} {kws : List (Str × V)} {m : MS} (bs : List Nat) (F : FunD K x qual (defArgs st) (defBody st) (defScope st) dvs kws f fd) (S : FnScope N ps (defScope st)) (hN : ps.length ≤ N.length) (hbs : ∀ i ∈ bs, i < ps.length)
    (body : ∀ (B : List (Nat × Addr)), B.map (·.1) = bs → ∀ (cdv : Value) (A : Around) (outer : List Env) (s : Shared) (H : Hp) (E : XK), Room k (A.deeper (PyProof.Rows.envOfC qual (defScope st) s.heap.objs.size f cdv)) →
      PSs (cxOf (L2.CX P w) P w K mg base N qual (defScope st) f cdv A outer s H E) (defBody st) (tS c B (fun cls d _ H => E cls d H) m)) :
    FnOk P w K mg base (L2.CX P w) (k + 1) f fd ps (spM c bs ps.length (mkFn N.length bs m)) := by
  refine F.ok S (fun vs H Q E h => ?_) (fun cdv A outer s H vs Q E hr h => ?_)
  · obtain ⟨G, A, ds, hn, ok, _⟩ := h
    rw [ok.len, hn]
  · obtain ⟨G, A0, ds, hn, ok, a⟩ := h
    have hl : vs.length = ps.length := by rw [ok.len, hn]
    have hlt : ∀ i ∈ bs, i < ds.length := fun i hi => by rw [hn]; exact hbs i hi
    -- the addresses of what is handed by reference
    have : ∃ B : List (Nat × Addr), B.map (·.1) = bs ∧ ∀ q ∈ B, vs[q.1]? = some (.ref q.2) := by
      have : ∀ l : List Nat, (∀ i ∈ l, i ∈ bs) → ∃ B : List (Nat × Addr), B.map (·.1) = l ∧ ∀ q ∈ B, vs[q.1]? = some (.ref q.2) := by
        intro l
        induction l with
        | nil => intro _; exact ⟨[], rfl, fun q h => by cases h⟩
        | cons i l ih =>
          intro hi
          obtain ⟨B, h1, h2⟩ := ih fun j hj => hi j (List.mem_cons_of_mem _ hj)
          have him := hi i List.mem_cons_self
          obtain ⟨p, e, _⟩ := ok.own i _ (List.getElem?_eq_getElem (hlt i him)) him
          refine ⟨(i, p) :: B, by rw [List.map_cons, h1], fun q hq => ?_⟩
          rcases List.mem_cons.mp hq with z | z
          · subst z; exact e
          · exact h2 q z
      exact this bs fun _ h => h
    obtain ⟨B, hB1, hB2⟩ := this
    have hBm : ∀ q ∈ B, q.1 ∈ bs ∧ vs[q.1]? = some (.ref q.2) := fun q hq => ⟨by rw [← hB1]; exact List.mem_map_of_mem hq, hB2 q hq⟩
    have hBi : ∀ i ∈ bs, ∃ p, (i, p) ∈ B ∧ vs[i]? = some (.ref p) := fun i hi => by
      rw [← hB1] at hi
      obtain ⟨q, hq, e⟩ := List.mem_map.mp hi
      subst e
      exact ⟨q.2, hq, hB2 q hq⟩
    refine ⟨_, body B hB1 cdv A outer s H E hr, G, _, _, rel_start ok (by rw [hl]; exact hN) B hBm hlt, ?_⟩
    have a : AfterF c bs G A0 H vs (match m (initC N.length bs ds) with
      | .next ρ => .ret .non (outsOf bs ρ)
      | .ret d ρ => .ret d (outsOf bs ρ)
      | .exc x ρ => .exc x (outsOf bs ρ)
      | _ => .stuck) Q E := a
    cases e : m (initC N.length bs ds) with
    | stuck => rw [e] at a; exact a.elim
    | brk ρ => rw [e] at a; exact a.elim
    | cont ρ => rw [e] at a; exact a.elim
    | next ρ => rw [e] at a; exact fun G' A' H' σ' s' R' => a G' H' .non (ret_of ok hlt hBi s' R') .non
    | ret d ρ => rw [e] at a; exact fun G' A' H' σ' v s' R' r => a G' H' v (ret_of ok hlt hBi s' R') r
    | exc x ρ => rw [e] at a; exact fun G' A' H' σ' dd s' R' r => a G' H' dd (ret_of ok hlt hBi s' R') r
theorem fn_ok0 {x qual : Str} {st : Stmt} {f : Addr} {fd : FuncData} {N ps : List Str} {k : Nat} {dvs : List V} {kws : List (Str × V)} {m : MS} (F : FunD K x qual (defArgs st) (defBody st) (defScope st) dvs kws f fd) (S : FnScope N ps (defScope st)) (hN : ps.length ≤ N.length)
    (body : ∀ (cdv : Value) (A : Around) (outer : List Env) (s : Shared) (H : Hp) (E : XK), Room k (A.deeper (PyProof.Rows.envOfC qual (defScope st) s.heap.objs.size f cdv)) →
      PSs (cxOf (L2.CX P w) P w K mg base N qual (defScope st) f cdv A outer s H E) (defBody st) (tS c [] (fun cls d _ H => E cls d H) m)) :
    FnOk P w K mg base (L2.CX P w) (k + 1) f fd ps (spM c [] ps.length (mkFn N.length [] m)) :=
  fn_ok [] F S hN (fun i h => by simp at h) fun B hB => by
    have : B = [] := by simpa using hB
    subst this
    exact body
theorem fn_ok1 (i : Nat) {x qual : Str} {st : Stmt} {f : Addr} {fd : FuncData} {N ps : List Str} {k : Nat} {dvs : List V} {kws : List (Str × V)} {m : MS} (F : FunD K x qual (defArgs st) (defBody st) (defScope st) dvs kws f fd) (S : FnScope N ps (defScope st)) (hN : ps.length ≤ N.length) (hi : i < ps.length)
    (body : ∀ (a : Addr) (cdv : Value) (A : Around) (outer : List Env) (s : Shared) (H : Hp) (E : XK), Room k (A.deeper (PyProof.Rows.envOfC qual (defScope st) s.heap.objs.size f cdv)) →
      PSs (cxOf (L2.CX P w) P w K mg base N qual (defScope st) f cdv A outer s H E) (defBody st) (tS c [(i, a)] (fun cls d _ H => E cls d H) m)) :
    FnOk P w K mg base (L2.CX P w) (k + 1) f fd ps (spM c [i] ps.length (mkFn N.length [i] m)) :=
  fn_ok [i] F S hN (fun j h => by simp at h; subst h; exact hi) fun B hB => by
    match B, hB with
    | [(j, a)], hB =>
      have : j = i := by simpa using hB
      subst this
      exact body a
end
end Fx
set_option Elab.async false
set_option linter.all false
set_option maxRecDepth 100000
set_option maxHeartbeats 4000000
/-! Fx11: errors made and raised. -/
namespace Fx
open PySem L2
/-- what the written part says of FarmError -/
structure BaseX (K : PySem.W.Frag) (mg : Str → Option Value) (CB : Addr) : Prop where
  gB : mg "FarmError" = some (.ref CB)
  sB : PySem.W.specialIn K (.ref CB) "__getattribute__" = some (some (.builtin "type.__getattribute__"))
  rB : PySem.W.readsIn K CB (.type "type") = true
  vB : PySem.W.findCls K (.ref CB) (.type "type") "__init__" = some (.val (.builtin "ValueError.__init__"))
section
variable {X : Cx} {o e : Expr} {es : List Expr} {to te : TE} {ta : TA} {f : Str} {p p' p1 p2 pos : Pos}
theorem pe_feinit {CB : Addr} {pl : Sem Bool} (T : BaseX X.K X.mg CB) (ha : PA X (e :: es) ta) (hg : Gl X "FarmError" := by rfl)
    (hc : eval (.Call (.Attribute (.Name "FarmError" p1) "__init__" p2) (e :: es) [] pos) X.env = (do
      let ov ← eval (.Name "FarmError" p1) X.env
      standAt p2.atName
      let (f, first) ← holding [ov] (getMethod ov "__init__" pl)
      callWith pos f first (backTo pos (starEach (e :: es) X.env)) (backToKw pos (keywordEach [] X.env))) := by rfl)
    (he : starEach (e :: es) X.env = (false, eval e X.env) :: starEach es X.env := by rfl) (hpl : (backTo pos (starEach es X.env)).any (·.1) = false := by rfl) :
    PE X (.Call (.Attribute (.Name "FarmError" p1) "__init__" p2) (e :: es) [] pos) (tVeI X.K ta) := by
  refine ⟨fun pins s σ H Q I h => ?_⟩
  refine PySem.W.methodCall_KW (ld_glob I hg T.gB ?_ (by decide)) hc
  refine PySem.W.method_cls I.kIn T.sB (PySem.W.cls_value I.kIn T.rB T.vB (by decide +kernel) ?_)
  show wpAny _ _ (callWith pos (Value.builtin "ValueError.__init__") [] (backTo pos (starEach (e :: es) X.env)) []) _ _ _
  refine PyProof.Rows.callWith_method1 (thn (ha.run pos pins _ σ H _ (I.tok _) h) fun us s1 ⟨vs, H1, I1, r1, a, C, ws, ev, hl, T, ea, q⟩ => ?_) he hpl
  subst ev
  cases r1 with
  | @cons _ u0 _ ur ra rw' =>
    obtain rfl : u0 = Value.ref a := ra
    have hlen : ur.length ≤ sizeLine := by
      rw [← Paired.length rw', sizeLine_eq]
      omega
    exact oinit_ok T I1 ea hlen fun s' J => ⟨.non, H1, J, rfl, q⟩
end
/-- __init__ with one field, with two -/
def spI1 (C : Addr) (f : Str) : Sp := fun vs H Q _ => ∃ a y, vs = [.ref a, y] ∧ H a = some (exo a C none) ∧ ∀ dx, H dx = none → dx ≠ a → Q .non (upd (upd H dx (exd dx [(f, y)])) a (exo a C (some dx)))
def spI2 (C : Addr) (f g : Str) : Sp := fun vs H Q _ => ∃ a y z, vs = [.ref a, y, z] ∧ H a = some (exo a C none) ∧ ∀ dx, H dx = none → dx ≠ a → Q .non (upd (upd (upd H dx (exd dx [(f, y)])) a (exo a C (some dx))) dx (exd dx [(g, z), (f, y)]))
theorem read1 {K : PySem.W.Frag} {C : Addr} {f msg : Str} {N : List Str} (hN : N.length = 2) (T : OexC K C) (hf : PySem.W.findIn K (.ref C) f = some none) {vs : List V} {H : Hp} {Q : VK} {E : XK} (h : spI1 C f vs H Q E) :
    tSeq (tDrop (tVeI K (tCons (tVar 0) (tCons (tC (.str msg)) tNil)))) (tOst K f (tVar 0) (tVar 1)) { nx := fun _ H' => Q .non H', rt := Q } (L2.start N vs) H := by
  obtain ⟨a, y, rfl, ha, k⟩ := h
  have e0 : (L2.start N [V.ref a, y])[0]? = some (some (V.ref a)) := rfl
  have e1 : (L2.start N [V.ref a, y])[1]? = some (some y) := rfl
  exact ⟨_, e0, a, C, [.str msg], rfl, by simp, T, ha, _, e1, _, e0, a, C, rfl, T, hf, .inl ⟨ha, fun dx n ne => k dx n ne⟩⟩
theorem read2 {K : PySem.W.Frag} {C : Addr} {f g msg : Str} {N : List Str} (hN : N.length = 3) (T : OexC K C) (hf : PySem.W.findIn K (.ref C) f = some none) (hg : PySem.W.findIn K (.ref C) g = some none) {vs : List V} {H : Hp} {Q : VK} {E : XK} (h : spI2 C f g vs H Q E) :
    tSeq (tDrop (tVeI K (tCons (tVar 0) (tCons (tC (.str msg)) tNil)))) (tSeq (tOst K f (tVar 0) (tVar 1)) (tOst K g (tVar 0) (tVar 2))) { nx := fun _ H' => Q .non H', rt := Q } (L2.start N vs) H := by
  obtain ⟨a, y, z, rfl, ha, k⟩ := h
  have e0 : (L2.start N [V.ref a, y, z])[0]? = some (some (V.ref a)) := rfl
  have e1 : (L2.start N [V.ref a, y, z])[1]? = some (some y) := rfl
  have e2 : (L2.start N [V.ref a, y, z])[2]? = some (some z) := rfl
  refine ⟨_, e0, a, C, [.str msg], rfl, by simp, T, ha, _, e1, _, e0, a, C, rfl, T, hf, .inl ⟨ha, fun dx n ne => ?_⟩⟩
  exact ⟨_, e2, _, e0, a, C, rfl, T, hg, .inr ⟨dx, _, upd_same, by rw [upd_ne ne, upd_same], by simp, k dx n ne⟩⟩
theorem del_upd_new {H : Hp} {a : Addr} {o : HO} (h : H a = none) : del (upd H a o) a = H := by
  funext b
  by_cases z : b = a
  · subst z; rw [del_same, h]
  · rw [del_ne z, upd_ne z]
section
variable {c : Cf} {B : List (Nat × Addr)} {W : WX} {X : Cx} {G H : Hp} {A : Addr → Prop} {σ : L2.St} {ρ : Cells} {Z : Ends}
/-- a class of errors as the written part has it: its code x -/
structure XcK (c : Cf) (K : PySem.W.Frag) (mg : Str → Option Value) (x : Nat) (nm : Str) (fI : Addr) : Prop where
  gC : mg nm = some (.ref (c.exc x))
  oex : OexC K (c.exc x)
  iC : PySem.W.findIn K (.ref (c.exc x)) "__init__" = some (some (.ref fI))
  tI : PySem.W.typeIn K (.ref fI) = some (.type "function")
def mRaise (x : Nat) (fs : List (M D)) : MS := mDo (seqM fs) fun ds ρ => .exc ⟨x, ds.reverse⟩ ρ
theorem raise_end (R : Rel c B G A H σ ρ) {x : Nat} {ds : List D} {d : Addr} {vs : List V} (hd : H d = none) (r : RepL c G vs ds.reverse) (a : AfterS c B W G A H (.exc ⟨x, ds.reverse⟩ ρ) Z) :
    W (.ref (c.exc x)) (some d) σ (upd H d (.xd ((c.flds x).zip vs))) := by
  have e := Ext.upd (o := .xd ((c.flds x).zip vs)) R.same hd
  exact a _ A _ σ d (Stp.same e.gg e.keep) (R.ext e) ⟨vs, upd_same, r.mono e.gg⟩
theorem ps_raise1 {x : Nat} {nm f : Str} {fI : Addr} {k : Nat} {fd : FuncData} {ps : List Str} {e : Expr} {fe : M D} {p pos pos2 : Pos} (hc : X.calm = true) (tk : Takes X W) (T : XcK c X.K X.mg x nm fI) (hf : c.flds x = [f])
    (F1 : FnOk X.prog X.w X.K X.mg X.base (L2.CX X.prog X.w) k fI fd ps (spI1 (c.exc x) f)) (hr : Room (k + 1) X.A) (hb : Binds X.K fd ps []) (ha : PE X e (tM c B W fe)) (hg : Gl X nm := by rfl)
    (hdb : (nm == ("__debug__" : Str)) = false := by decide) (he : starEach (e :: []) X.env = (false, eval e X.env) :: starEach [] X.env := by rfl) (hpl : (backTo pos (starEach [] X.env)).any (·.1) = false := by rfl) :
    PS X (.Raise (some (.Call (.Name nm p) [e] [] pos)) none pos2) (tS c B W (mRaise x [fe])) :=
  ps_imp (ps_raise hc tk (pmk_oex T.oex T.iC T.tI F1 hr hb .nil passL hg T.gC (pd_cons ha pd_nil he) hdb he hpl)) fun Z σ H ⟨G, A, ρ, R, a⟩ => by
    refine ⟨G, A, ρ, R, (a.split R).len.imp fun ds ρ' G' H' _ _ R' ⟨hl, q⟩ vs r => ?_⟩
    match ds, hl with
    | [d1], _ =>
      obtain ⟨v, rfl, rv⟩ := repL1 r
      refine ⟨by simp, fun a na => ⟨a, v, rfl, upd_same, fun dx n ne => ⟨rfl, dx, [(f, v)], upd_same, by rw [upd_ne ne, upd_same], ?_, ?_⟩⟩⟩
      · rw [upd_ne ne] at n; exact n
      · have n' : H' dx = none := by rw [upd_ne ne] at n; exact n
        have z := raise_end (vs := [v]) (ds := [d1]) R' n' (.one rv) q
        rw [hf] at z
        have ee : upd (del (upd (upd (upd H' a (exo a (c.exc x) none)) dx (exd dx [(f, v)])) a (exo a (c.exc x) (some dx))) a) dx (.xd [(f, v)]) = upd H' dx (.xd [(f, v)]) := by
          funext b
          by_cases hb : b = dx
          · subst hb; rw [upd_same, upd_same]
          · rw [upd_ne hb, upd_ne hb]
            by_cases hba : b = a
            · subst hba; rw [del_same, na]
            · rw [del_ne hba, upd_ne hba, upd_ne hb, upd_ne hba]
        rw [ee]
        exact z
theorem ps_raise2 {x : Nat} {nm f g : Str} {fI : Addr} {k : Nat} {fd : FuncData} {ps : List Str} {e e2 : Expr} {fe fe2 : M D} {p pos pos2 : Pos} (hc : X.calm = true) (tk : Takes X W) (T : XcK c X.K X.mg x nm fI) (hf : c.flds x = [g, f])
    (F1 : FnOk X.prog X.w X.K X.mg X.base (L2.CX X.prog X.w) k fI fd ps (spI2 (c.exc x) f g)) (hr : Room (k + 1) X.A) (hb : Binds X.K fd ps []) (ha : PE X e (tM c B W fe)) (ha2 : PE X e2 (tM c B W fe2)) (hg : Gl X nm := by rfl)
    (hdb : (nm == ("__debug__" : Str)) = false := by decide) (he : starEach (e :: [e2]) X.env = (false, eval e X.env) :: starEach [e2] X.env := by rfl) (he2 : starEach [e2] X.env = (false, eval e2 X.env) :: starEach [] X.env := by rfl) (hpl : (backTo pos (starEach [e2] X.env)).any (·.1) = false := by rfl) :
    PS X (.Raise (some (.Call (.Name nm p) [e, e2] [] pos)) none pos2) (tS c B W (mRaise x [fe, fe2])) :=
  ps_imp (ps_raise hc tk (pmk_oex T.oex T.iC T.tI F1 hr hb .nil passL hg T.gC (pd_cons ha (pd_cons ha2 pd_nil he2) he) hdb he hpl)) fun Z σ H ⟨G, A, ρ, R, a⟩ => by
    refine ⟨G, A, ρ, R, (a.split R).len.imp fun ds ρ' G' H' _ _ R' ⟨hl, q⟩ vs r => ?_⟩
    match ds, hl with
    | [d1, d2], _ =>
      cases r with
      | @cons v _ _ _ rv rt =>
        obtain ⟨w, rfl, rw'⟩ := repL1 rt
        refine ⟨by simp, fun a na => ⟨a, v, w, rfl, upd_same, fun dx n ne => ⟨rfl, dx, [(g, w), (f, v)], by rw [upd_ne (Ne.symm ne), upd_same], upd_same, ?_, ?_⟩⟩⟩
        · rw [upd_ne ne] at n; exact n
        · have n' : H' dx = none := by rw [upd_ne ne] at n; exact n
          have z := raise_end (vs := [w, v]) (ds := [d1, d2]) R' n' (.cons rw' (.one rv)) q
          rw [hf] at z
          have ee : upd (del (upd (upd (upd (upd H' a (exo a (c.exc x) none)) dx (exd dx [(f, v)])) a (exo a (c.exc x) (some dx))) dx (exd dx [(g, w), (f, v)])) a) dx (.xd [(g, w), (f, v)]) = upd H' dx (.xd [(g, w), (f, v)]) := by
            funext b
            by_cases hb : b = dx
            · subst hb; rw [upd_same, upd_same]
            · rw [upd_ne hb, upd_ne hb]
              by_cases hba : b = a
              · subst hba; rw [del_same, na]
              · rw [del_ne hba, upd_ne hb, upd_ne hba, upd_ne hb, upd_ne hba]
          rw [ee]
          exact z
end
end Fx
set_option Elab.async false
set_option linter.all false
set_option maxRecDepth 100000
set_option maxHeartbeats 4000000
/-! Fx12: farms: fields, making, methods, len. -/
namespace Fx
open PySem L2
section
variable {c : Cf} {B : List (Nat × Addr)} {W : WX} {X : Cx} {G H : Hp} {A : Addr → Prop} {σ : L2.St} {ρ : Cells} {Z : Ends}
theorem zip_lookup {f : Str} {d : D} : ∀ {ns : List Str} {vs : List V} {ds : List D}, RepL c G vs ds → ns.length = vs.length → (ns.zip ds).lookup f = some d → ∃ v, (ns.zip vs).lookup f = some v ∧ Rep c G v d
  | [], [], _, .nil, _, h => by cases h
  | n :: ns, v :: vs, e :: ds, .cons r t, hl, h => by
    rw [List.zip_cons_cons, List.lookup_cons] at h ⊢
    cases hq : f == n with
    | true => simp only [hq] at h ⊢; cases h; exact ⟨v, rfl, r⟩
    | false => simp only [hq] at h ⊢; exact zip_lookup t (by simpa using hl) h
  | n :: ns, [], _, .nil, hl, _ => by cases hl
def mFld (fe : M D) (f : Str) : M D := fe.bind fun d => match d with
  | .rcd ns ds => M.lift ((ns.zip ds).lookup f)
  | _ => M.stuck
theorem pm_fld {e : Expr} {f : Str} {fe : M D} {pos : Pos} (T : Cls X.K c.farm) (n : NoAttr X.K c.farm f) (he : PE X e (tM c B W fe)) (hb : attributeBase e f X.env (eval e X.env) = eval e X.env := by rfl) : PE X (.Attribute e f pos) (tM c B W (mFld fe f)) :=
  pe_imp (pe_fld he hb) fun σ H Q ⟨G, A, ρ, R, a⟩ => by
    refine ⟨G, A, ρ, R, a.split.imp fun d ρ1 G1 H1 _ _ R1 q v r => ?_⟩
    cases d <;> first | exact q.elim | skip
    obtain ⟨d, e1, q⟩ := q.lift R1
    cases r with
    | rcd h l rl =>
      obtain ⟨v, h1, h2⟩ := zip_lookup rl l e1
      exact ⟨_, _, _, _, v, rfl, R1.same _ _ h, T, n, h1, q v h2⟩
theorem putF_new {f : Str} {v : V} : ∀ {ns : List Str} {vs : List V}, ns.length = vs.length → ns.contains f = false → putF f v (ns.zip vs) = (ns ++ [f]).zip (vs ++ [v])
  | [], [], _, _ => rfl
  | n :: ns, w :: vs, hl, h => by
    have hn : ¬ n = f := fun z => by subst z; simp at h
    rw [List.zip_cons_cons, List.cons_append, List.cons_append, List.zip_cons_cons]
    show (if n = f then (n, v) :: ns.zip vs else (n, w) :: putF f v (ns.zip vs)) = _
    rw [if_neg hn, putF_new (by simpa using hl) (by simp at h ⊢; exact h.2)]
  | [], _ :: _, hl, _ => by cases hl
  | _ :: _, [], hl, _ => by cases hl
def mSetF (i : Nat) (f : Str) (fe : M D) : MS := mDo fe fun d => mDo (ownAt i) fun o ρ => match o with
  | .rcd ns ds => if ns.contains f = false ∧ ns.length < 100 then .next (ρ.set i (.own (.rcd (ns ++ [f]) (ds ++ [d])))) else .stuck
  | _ => .stuck
theorem ps_setF (i : Nat) {x f : Str} {e : Expr} {fe : M D} {np p pos : Pos} (T : Cls X.K c.farm) (n : NoAttr X.K c.farm f) (he : PE X e (tM c B W fe)) (hN : X.N[i]? = some x := by rfl) (hv : Vis X.env.scope x := by first | exact Or.inl rfl | exact Or.inr (Or.inl rfl) | exact Or.inr (Or.inr rfl)) (hd : (x == ("__debug__" : Str)) = false := by decide)
    (hcd : (x == ("__classdict__" : Str)) = false := by decide) (hs : swapsWith e (some (.Attribute (.Name x np) f p)) pos.line X.env = pure false := by rfl) : PS X (.Assign [.Attribute (.Name x np) f p] e pos) (tS c B W (mSetF i f fe)) :=
  ps_imp (ps_fld (pe_var hN hv hd hcd) he hs) fun Z σ H ⟨G, A, ρ, R, a⟩ => by
    refine ⟨G, A, ρ, R, (a.split R).imp fun d ρ1 G1 H1 _ _ R1 q v r => ?_⟩
    unfold mDo ownAt at q
    cases e1 : ρ1[i]? with
    | none => simp only [e1] at q; exact q.elim
    | some cl =>
      simp only [e1] at q
      cases cl with
      | no => exact q.elim
      | dat d => exact q.elim
      | own o =>
        simp only at q
        obtain ⟨p, es, hA, hO⟩ := R1.own i o e1
        cases o <;> first | exact q.elim | skip
        rename_i ns ds
        obtain ⟨dx, xs, h1, h2, h3⟩ := hO
        have q : AfterS c B W G1 A H1 (if ns.contains f = false ∧ ns.length < 100 then .next (ρ1.set i (.own (.rcd (ns ++ [f]) (ds ++ [d])))) else .stuck) Z := q
        split at q
        · rename_i hc
          refine ⟨_, es, p, _, dx, _, rfl, h1, T, n, by rw [List.length_zip]; omega, ?_⟩
          rw [putF_new h2 hc.1]
          obtain ⟨R2, k2, s2⟩ := R1.setOwn (d' := .rcd (ns ++ [f]) (ds ++ [d])) (o := .ins c.farm dx ((ns ++ [f]).zip (xs ++ [v]))) e1 es ⟨dx, _, rfl, by simp [h2], h3.append (.one r)⟩
          exact AfterS.nx (AfterS.of R1.own_there (Stp.same (Same.refl _) k2) q) R2
        · exact q.elim
/-! ### a farm is made -/
def mMake (F : Fn) (fs : List (M D)) : M D := (seqM fs).bind fun ds ρ => match F (.rcd [] [] :: ds) with
  | .ret .non [.rcd ns es] => .ok (.rcd ns es) ρ
  | .exc x _ => .exc x ρ
  | _ => .stuck
theorem pm_make {F : Fn} {fs : List (M D)} {k n : Nat} {fI : Addr} {fd : FuncData} {ps : List Str} {E : XK} {x : Str} {p pos : Pos} {e : Expr} {es : List Expr} (Mk' : Mk X.K c.farm fI)
    (Fo : FnOk X.prog X.w X.K X.mg X.base (L2.CX X.prog X.w) k fI fd ps (spM c [0] n F)) (hr : Room (k + 1) X.A) (hx : Passes (L2.CX X.prog X.w) X E) (hm : X.mg x = some (.ref c.farm)) (hb : Binds X.K fd ps [])
    (ha : PA X (e :: es) (tD c B (fun cls d _ H => E cls d H) fs)) (hn : fs.length + 1 = n := by rfl) (hg : Gl X x := by rfl) (hdb : (x == ("__debug__" : Str)) = false := by decide)
    (he : starEach (e :: es) X.env = (false, eval e X.env) :: starEach es X.env := by rfl) (hpl : (backTo pos (starEach es X.env)).any (·.1) = false := by rfl) :
    PE X (.Call (.Name x p) (e :: es) [] pos) (tM c B (fun cls d _ H => E cls d H) (mMake F fs)) :=
  pe_imp (pe_make Mk' Fo hr hg hm hb .nil hx ha hdb he hpl) fun σ H Q ⟨G, A, ρ, R, a⟩ => by
    refine ⟨G, A, ρ, R, a.split.len.imp fun ds ρ1 G1 H1 _ _ R1 ⟨hl, q⟩ vs rv x dx hx hdx hne => ?_⟩
    have hsm : Same H1 (upd (upd H1 dx (.own x)) x (.ins c.farm dx [])) := fun b o e => by
      rw [upd_ne (ne_of_none e hx), upd_ne (ne_of_none e hdx)]; exact e
    have gx : G1 x = none := R1.same.free hx
    refine ⟨G1, fun b => b = x, .rcd [] [] :: ds, by rw [List.length_cons, hl]; exact hn, ⟨R1.same.trans hsm, fun b hb => by rw [hb]; exact ⟨gx, _, upd_same⟩, ?_, fun i d hd hi => ?_, fun i d hd hi => ?_, fun i j p hij hi hj => ?_⟩, ?_⟩
    · rw [List.append_nil, List.length_cons, List.length_cons, rv.length]
    · rw [List.append_nil]
      cases i with
      | zero => simp at hi
      | succ i =>
        obtain ⟨v, h1, h2⟩ := rv.get (i := i) (d := d) (by simpa using hd)
        exact ⟨v, by simpa using h1, h2⟩
    · have hi0 : i = 0 := by simpa using hi
      subst hi0
      have hd' : D.rcd [] [] = d := by simpa using hd
      subst hd'
      exact ⟨x, rfl, rfl, dx, [], upd_same, rfl, .nil⟩
    · have h1 : i = 0 := by simpa using hi
      have h2 : j = 0 := by simpa using hj
      exact absurd (h1.trans h2.symm) hij
    · have q : After c B (fun cls d _ H => E cls d H) G1 A H1 σ (match F (.rcd [] [] :: ds) with
        | .ret .non [.rcd ns es] => .ok (.rcd ns es) ρ1
        | .exc x _ => .exc x ρ1
        | _ => .stuck) (fun d _ G' H' => ∀ v, Rep c G' v d → Q v H') := q
      have ext : ∀ {outs : List D} {G' H' : Hp}, Ret c [0] G1 (fun b => b = x) (upd (upd H1 dx (.own x)) x (.ins c.farm dx [])) (V.ref x :: (vs ++ [])) outs G' H' → ∀ b o, H1 b = some o → H' b = some o ∧ G' b = G1 b := fun {outs G' H'} r b o e => r.kp b o (hsm b o e) (ne_of_none e hx)
      cases ef : F (.rcd [] [] :: ds) with
      | stuck => rw [ef] at q; exact q.elim
      | exc y outs =>
        rw [ef] at q
        intro G' H' dd r rx
        have ee : Ext G1 H1 G' H' := ⟨r.gg, fun b o e => (ext r b o e).1, r.gh, fun b o e => (ext r b o e).2⟩
        exact q G' H' dd r.gg ee.keep (R1.ext ee) rx
      | ret d0 outs =>
        rw [ef] at q
        cases d0 <;> first | exact q.elim | skip
        match outs, q with
        | [.rcd ns es], q =>
          intro G' H' v r rv0
          obtain rfl : v = .non := by cases rv0; rfl
          refine ⟨rfl, ?_⟩
          obtain ⟨p, hp, ho⟩ := r.outs.2 0 0 _ rfl rfl
          have hpx : p = x := by
            have : V.ref x = V.ref p := by simpa using hp
            cases this; rfl
          subst hpx
          obtain ⟨dx', xs, h1, h2, h3⟩ := ho
          have gn : G' p = none := (r.ownA p rfl).1
          have ee : Ext G1 H1 (upd G' p (.ins c.farm dx' (ns.zip xs))) H' := ⟨r.gg.trans (same_upd gn), fun b o e => (ext r b o e).1, fun b o e => by
            by_cases z : b = p
            · subst z; rw [upd_same] at e; cases e; exact h1
            · rw [upd_ne z] at e; exact r.gh b o e, fun b o e => by rw [upd_ne (ne_of_none e hx)]; exact (ext r b o e).2⟩
          exact q _ H' ee.gg ee.keep (R1.ext ee) _ (.rcd upd_same h2 (h3.mono (same_upd gn)))
/-! ### methods of a farm -/
def noName (m : Str) : D → Bool
  | .rcd ns _ => !ns.contains m
  | _ => false
def mMethF (F : Fn) (m : Str) (fo : M D) (fs : List (M D)) : M D := fo.bind fun d => if noName m d = true then (seqM fs).bind fun ds => appF F (d :: ds) else M.stuck
theorem zip_none {m : Str} : ∀ {ns : List Str} {vs : List V}, ns.contains m = false → (ns.zip vs).lookup m = none
  | [], _, _ => rfl
  | _ :: _, [], _ => rfl
  | n :: ns, v :: vs, h => by
    rw [List.zip_cons_cons, List.lookup_cons]
    simp at h
    have : (m == n) = false := by simpa using h.1
    rw [this]
    exact zip_none (by simpa using h.2)
theorem meth_core {F : Fn} {m : Str} {fo : M D} {fs : List (M D)} {n : Nat} {E : XK} {Q : VK} (hn : fs.length + 1 = n) (h : tM c B (fun cls d _ H => E cls d H) (mMethF F m fo fs) σ H Q) :
    tMeth c.farm m (spM c [] n F) [] E (tM c B (fun cls d _ H => E cls d H) fo) (tD c B (fun cls d _ H => E cls d H) fs) σ H Q := by
  obtain ⟨G, A, ρ, R, a⟩ := h
  refine ⟨G, A, ρ, R, a.split.imp fun d ρ1 G1 H1 _ _ R1 q v r => ?_⟩
  cases hd : noName m d with
  | false => rw [hd, if_neg Bool.false_ne_true] at q; exact q.elim
  | true =>
    rw [hd, if_pos rfl] at q
    cases d <;> first | (cases hd; done) | skip
    rename_i ns ds0
    have r0 := r
    cases r with
    | rcd h l rl =>
      refine ⟨_, _, _, rfl, R1.same _ _ h, zip_none (by simpa [noName] using hd), G1, A, ρ1, R1, q.split.len.imp fun ds ρ2 G2 H2 s2 _ R2 ⟨hl, q2⟩ vs rv => ?_⟩
      simp only [List.append_nil]
      refine ⟨G2, _, .rcd ns ds0 :: ds, by rw [List.length_cons, hl]; exact hn, argsOk_rep R2.same (.cons (r0.mono s2) rv), ?_⟩
      unfold appF at q2
      cases ef : F (.rcd ns ds0 :: ds) with
      | stuck => rw [ef] at q2; exact q2.elim
      | ret d outs =>
        rw [ef] at q2
        intro G' H' v r rv
        obtain ⟨s1, k1, R3⟩ := r.rel R2
        exact q2 G' H' s1 k1 R3 v rv
      | exc y outs =>
        rw [ef] at q2
        intro G' H' dd r rx
        obtain ⟨s1, k1, R3⟩ := r.rel R2
        exact q2 G' H' dd s1 k1 R3 rx
theorem pm_methF {F : Fn} {fs : List (M D)} {fo : M D} {k n : Nat} {f : Addr} {fd : FuncData} {ps : List Str} {E : XK} {m : Str} {apos pos : Pos} {o e : Expr} {es : List Expr} {pl : Sem Bool} (he : PE X o (tM c B (fun cls d _ H => E cls d H) fo)) (T : Cls X.K c.farm) (hm : Meth X.K c.farm m f)
    (Fo : FnOk X.prog X.w X.K X.mg X.base (L2.CX X.prog X.w) k f fd ps (spM c [] n F)) (hr : Room k X.A) (hx : Passes (L2.CX X.prog X.w) X E) (hb : Binds X.K fd ps [])
    (ha : PA X (e :: es) (tD c B (fun cls d _ H => E cls d H) fs)) (hn : fs.length + 1 = n := by rfl)
    (hst : starEach (e :: es) X.env = (false, eval e X.env) :: starEach es X.env := by rfl) (hpl : (backTo pos (starEach es X.env)).any (·.1) = false := by rfl)
    (ht : eval (.Call (.Attribute o m apos) (e :: es) [] pos) X.env = (do
      let ov ← eval o X.env
      standAt apos.atName
      let (f, first) ← holding [ov] (getMethod ov m pl)
      callWith pos f first (backTo pos (starEach (e :: es) X.env)) (backToKw pos (keywordEach [] X.env))) := by rfl) :
    PE X (.Call (.Attribute o m apos) (e :: es) [] pos) (tM c B (fun cls d _ H => E cls d H) (mMethF F m fo fs)) :=
  pe_imp (pe_meth he T hm Fo hr hb .nil hx ha hst hpl ht) fun σ H Q h => meth_core hn h
theorem pm_methF0 {F : Fn} {fo : M D} {k : Nat} {f : Addr} {fd : FuncData} {ps : List Str} {E : XK} {m : Str} {apos pos : Pos} {o : Expr} {pl : Sem Bool} (he : PE X o (tM c B (fun cls d _ H => E cls d H) fo)) (T : Cls X.K c.farm) (hm : Meth X.K c.farm m f)
    (Fo : FnOk X.prog X.w X.K X.mg X.base (L2.CX X.prog X.w) k f fd ps (spM c [] 1 F)) (hr : Room k X.A) (hx : Passes (L2.CX X.prog X.w) X E) (hb : Binds X.K fd ps [])
    (ht : eval (.Call (.Attribute o m apos) [] [] pos) X.env = (do
      let ov ← eval o X.env
      standAt apos.atName
      let (f, first) ← holding [ov] (getMethod ov m pl)
      callWith pos f first (backTo pos (starEach [] X.env)) (backToKw pos (keywordEach [] X.env))) := by rfl) :
    PE X (.Call (.Attribute o m apos) [] [] pos) (tM c B (fun cls d _ H => E cls d H) (mMethF F m fo [])) :=
  pe_imp (pe_meth0 he T hm Fo hr hb .nil hx ht) fun σ H Q h => by
    have h := meth_core (n := 1) rfl h
    obtain ⟨G, A, ρ, R, a⟩ := h
    exact ⟨G, A, ρ, R, a.imp fun d ρ1 G1 H1 _ _ R1 q v r => by
      obtain ⟨a, dx, fs, h1, h2, h3, G2, A2, ρ2, R2, q2⟩ := q v r
      exact ⟨a, dx, fs, h1, h2, h3, After.ok q2 R2 [] .nil⟩⟩
end
end Fx
set_option Elab.async false
set_option linter.all false
set_option maxRecDepth 100000
set_option maxHeartbeats 4000000
/-! Fx13: a negated int, two names at once, len of a farm, len of a set, dicts made by comprehension, a new list handed in. -/
namespace Fx
open PySem L2
section
variable {c : Cf} {B : List (Nat × Addr)} {W : WX} {X : Cx} {G H : Hp} {A : Addr → Prop} {σ : L2.St} {ρ : Cells} {Z : Ends}
def mNeg (f : M D) : M D := f.bind fun d => match d with
  | .int i => M.pure (.int (-i))
  | _ => M.stuck
theorem pm_neg {a : Expr} {f : M D} {pos : Pos} (h : PE X a (tM c B W f)) : PE X (.UnaryOp .USub a pos) (tM c B W (mNeg f)) :=
  pe_imp (pe_un un_neg h) fun σ H Q ⟨G, A, ρ, R, a⟩ => by
    refine ⟨G, A, ρ, R, a.split.imp fun d ρ1 G1 H1 _ _ R1 q v r => ?_⟩
    cases d <;> first | exact q.elim | skip
    obtain rfl := rep_int r
    exact ⟨_, rfl, After.ok q R1 _ (.int _)⟩
/-! ### a, b = x, y -/
def mPar (f g : M D) (i j : Nat) : MS := mDo f fun d => mDo g fun e ρ => .next ((ρ.set i (.dat d)).set j (.dat e))
theorem ps_parM (i j : Nat) {x y : Str} {a b : Expr} {f g : M D} {px py pt pos : Pos} {kt k2 pt2} (hc : X.calm = true) (hN : X.N.Nodup) (hb1 : B.all (fun q => q.1 != i) = true) (hb2 : B.all (fun q => q.1 != j) = true) (ha : PE X a (tM c B W f)) (hb : PE X b (tM c B W g))
    (hi : X.N[i]? = some x := by rfl) (hj : X.N[j]? = some y := by rfl) (hij : i ≠ j := by decide)
    (hx : X.env.scope.names.lookup x = some .local := by rfl) (hy : X.env.scope.names.lookup y = some .local := by rfl)
    (hw : swappedStores [.Tuple [.Name x px, .Name y py] kt pt] (.Tuple [a, b] k2 pt2) X.env = pure (some [x, y]) := by rfl)
    (hs : swapsWithSole [.Tuple [.Name x px, .Name y py] kt pt] (.Tuple [a, b] k2 pt2) pos.line X.env = pure false := by rfl)
    (hs1 : starEach [a, b] X.env = (false, eval a X.env) :: starEach [b] X.env := by rfl) (hs2 : starEach [b] X.env = (false, eval b X.env) :: starEach [] X.env := by rfl) :
    PS X (.Assign [.Tuple [.Name x px, .Name y py] kt pt] (.Tuple [a, b] k2 pt2) pos) (tS c B W (mPar f g i j)) :=
  ps_imp (ps_par hc hN hi hj hij hx hy (pa_cons ha (pa_cons hb pa_nil hs2) hs1) hw hs) fun Z σ H ⟨G, A, ρ, R, a⟩ => by
    refine ⟨G, A, ρ, R, (a.split R).imp fun d ρ1 G1 H1 _ _ R1 a1 v r => ?_⟩
    refine ⟨G1, A, ρ1, R1, (a1.split R1).imp fun e ρ2 G2 H2 s2 _ R2 a2 w r2 => ?_⟩
    exact ⟨v, w, rfl, AfterS.nx a2 ((R2.setDat (r.mono s2) hb1).setDat r2 hb2)⟩
/-! ### len(farm) -/
def isRcd : D → Bool
  | .rcd _ _ => true
  | _ => false
def mLenF (F : Fn) (fe : M D) : M D := fe.bind fun d ρ => if isRcd d = true then (match F [d] with
  | .ret (.int n) _ => if 0 ≤ n ∧ n < 2 ^ 63 then .ok (.int n) ρ else .stuck
  | _ => .stuck) else .stuck
theorem pm_lenF {F : Fn} {fe : M D} {k : Nat} {f : Addr} {fd : FuncData} {ps : List Str} {E : XK} {e : Expr} {p pos : Pos} (hs : PySem.W.findIn X.K (.ref c.farm) "__len__" = some (some (.ref f))) (hf : PySem.W.isFn X.K (.ref f) = true)
    (Fo : FnOk X.prog X.w X.K X.mg X.base (L2.CX X.prog X.w) k f fd ps (spM c [] 1 F)) (hr : Room (k + 1) X.A) (tk : Takes X W) (hb : Binds X.K fd ps []) (hm : X.mg "len" = none)
    (he : PE X e (tM c B W fe)) (hg : Gl X "len" := by rfl)
    (hst : starEach [e] X.env = (false, eval e X.env) :: starEach [] X.env := by rfl) (hpl : (backTo pos (starEach [] X.env)).any (·.1) = false := by rfl) :
    PE X (.Call (.Name "len" p) [e] [] pos) (tM c B W (mLenF F fe)) := by
  refine ⟨fun pins s σ H Q I ⟨G, A, ρ, R, a⟩ => ?_⟩
  refine wpAny_Call_Name_kw (ld_blt I hg hm boot_len ?_)
  refine PyProof.Rows.callWith_builtin1 (thn ((pa_cons he pa_nil hst).run pos pins s σ H (fun vs H2 => ∃ v d G' ρ', vs = [v] ∧ Rel c B G' A H2 σ ρ' ∧ Rep c G' v d ∧ After c B W G' A H2 σ (if isRcd d = true then (match F [d] with
    | .ret (.int n) _ => if 0 ≤ n ∧ n < 2 ^ 63 then .ok (.int n) ρ' else .stuck
    | _ => .stuck) else .stuck) fun d _ G' H' => ∀ v, Rep c G' v d → Q v H') I ?_) fun us s1 ⟨vs, H1, I1, r1, q1⟩ => ?_) hst hpl
  · exact ⟨G, A, ρ, R, a.split.imp fun d ρ1 G1 H1 _ _ R1 q v r => ⟨v, d, G1, ρ1, rfl, R1, r, q⟩⟩
  · obtain ⟨v, d, G', ρ', rfl, R', r, q⟩ := q1
    cases d <;> first | exact q.elim | skip
    rename_i ns ds
    have r0 := r
    cases r with
    | rcd h l rl =>
      rename_i x dx xs
      rw [show isRcd (D.rcd ns ds) = true from rfl, if_pos rfl] at q
      cases ef : F [.rcd ns ds] with
      | stuck => rw [ef] at q; exact q.elim
      | exc y outs => rw [ef] at q; exact q.elim
      | ret d0 outs =>
        rw [ef] at q
        cases d0 <;> first | exact q.elim | skip
        rename_i n
        have q : After c B W G' A H1 σ (if 0 ≤ n ∧ n < 2 ^ 63 then .ok (.int n) ρ' else .stuck) fun d _ G' H' => ∀ v, Rep c G' v d → Q v H' := q
        split at q
        · rename_i hn
          cases r1 with
          | cons rv rn =>
            cases rn
            obtain rfl : _ = Value.ref x := rv
            obtain ⟨mA, O, _⟩ := ins_get I1.hok (R'.same _ _ h)
            obtain ⟨od, J, _⟩ := ObjM.look O
            refine Calls.call_function_entry kind_len plain_len entry_len (args_len1 _) ?_
            unfold Builtin.«len»
            refine wpAny_bind (m := oneArg "len" _) (wpAny_pure ?_)
            refine wpAny_bind (m := callSpecial? (.ref x) (Str.ofString "__len__")) (PySem.W.special_fn I1.kIn J hs (beq_iff_eq.mp hf) ?_)
            have hsp : spM c [] 1 F [V.ref x] H1 (fun v H' => v = .int n ∧ Q v H') (fun cls d H => W cls d σ H) := by
              refine ⟨G', _, [.rcd ns ds], rfl, argsOk_rep R'.same (.cons r0 .nil), ?_⟩
              rw [ef]
              intro G2 H2 v r rv
              obtain ⟨s1, k1, R3⟩ := r.rel R'
              obtain rfl := rep_int rv
              exact ⟨rfl, q G2 H2 s1 k1 R3 _ (.int _)⟩
            refine wpAny_call (codeAny_mono (Fo.run X.A.in1 X.stack s1 H1 ⟨[.ref x], []⟩ [.ref x] [.ref x] _ (fun cls d H => W cls d σ H) hr.in1 I1.env0.in1 (hb s1 [.ref x] I1.kIn (Fo.len _ _ _ _ hsp)) (.cons rfl .nil) hsp) fun r s' hq => ?_)
            cases r with
            | error e => exact passAt tk σ pins H1 s1 e s' I1 hq
            | ok fl =>
              cases fl with
              | ret u =>
                obtain ⟨v, H2, I2, ru, ev, qv⟩ := I1.after hq
                subst ev
                obtain ⟨tk2, rfl⟩ := ru
                refine wpAny_bind (wpAny_holding (wpAny_pure ?_))
                refine wpAny_bind (wpAny_letGo ?_)
                show wpAny _ _ (if n < 0 then _ else _) _ _ _
                rw [if_neg (by omega)]
                show wpAny _ _ (if n ≥ 2 ^ 63 then _ else _) _ _ _
                rw [if_neg (by omega)]
                exact wpAny_bind (wpAny_mkInt (wpAny_pure ⟨_, rfl, V.int n, H2, I2.tok _, ⟨_, rfl⟩, qv⟩))
              | next => exact False.elim hq
              | brk => exact False.elim hq
              | cont => exact False.elim hq
        · exact q.elim
end
end Fx
set_option Elab.async false
set_option linter.all false
set_option maxRecDepth 100000
set_option maxHeartbeats 4000000
/-! Fx14: len(set(x)); dicts: by comprehension, read at a key; a new list handed in. -/
namespace Fx
open PySem L2
section
variable {c : Cf} {B : List (Nat × Addr)} {W : WX} {X : Cx} {G H : Hp} {A : Addr → Prop} {σ : L2.St} {ρ : Cells} {Z : Ends}
/-! ### len(set(x)) -/
def dedupI : List Int → List Int
  | [] => []
  | a :: l => if l.contains a = true then dedupI l else a :: dedupI l
theorem mem_dedupI {a : Int} : ∀ {l : List Int}, a ∈ dedupI l ↔ a ∈ l
  | [] => Iff.rfl
  | b :: l => by
    unfold dedupI
    split
    · rename_i h
      have h : b ∈ l := by simpa using h
      rw [mem_dedupI]
      constructor
      · exact List.mem_cons_of_mem _
      · intro z
        rcases List.mem_cons.mp z with e | e
        · subst e; exact h
        · exact e
    · rw [List.mem_cons, List.mem_cons, mem_dedupI]
theorem nodup_dedupI : ∀ l : List Int, (dedupI l).Nodup
  | [] => List.nodup_nil
  | b :: l => by
    unfold dedupI
    split
    · exact nodup_dedupI l
    · rename_i h
      exact List.nodup_cons.mpr ⟨fun z => h (by simpa using mem_dedupI.mp z), nodup_dedupI l⟩
theorem len_sub : ∀ {l m : List Int}, l.Nodup → (∀ x ∈ l, x ∈ m) → l.length ≤ m.length
  | [], _, _, _ => Nat.zero_le _
  | a :: l, m, nd, h => by
    obtain ⟨h1, h2⟩ := List.nodup_cons.mp nd
    have ha := h a List.mem_cons_self
    have q := len_sub (l := l) (m := m.erase a) h2 fun x hx => (List.mem_erase_of_ne (fun e => h1 (by rw [← e]; exact hx))).mpr (h x (List.mem_cons_of_mem _ hx))
    rw [List.length_erase_of_mem ha] at q
    have := List.length_pos_of_mem ha
    rw [List.length_cons]
    omega
def sLenSet : D → Option D
  | .tup ds => (intsOf ds).bind fun is => if is.length ≤ 4000 then some (.int (dedupI is).length) else none
  | _ => none
def mLenSet (fe : M D) : M D := fe.bind fun d => M.lift (sLenSet d)
theorem pm_lenSet {a : Expr} {f : M D} {p p2 q pos : Pos} (hc : X.calm = true) (hm : X.mg "len" = none) (hm2 : X.mg "set" = none) (ha : PE X a (tM c B W f)) (hK : c.K = X.K) (hg : Gl X "len" := by rfl) (hg2 : Gl X "set" := by rfl)
    (na : starEach [a] X.env = (false, eval a X.env) :: starEach [] X.env := by rfl) : PE X (.Call (.Name "len" p) [.Call (.Name "set" p2) [a] [] q] [] pos) (tM c B W (mLenSet f)) := by
  refine ⟨fun pins s σ H Q I ⟨G, A, ρ, R, h⟩ => ?_⟩
  refine PyProof.Rows.Call_ (ld_blt I hg hm boot_len ?_)
  refine PyProof.Rows.callWith_builtin1 (PyProof.Rows.args_cons ?_ rfl) rfl rfl
  refine PyProof.Rows.Call_ (ld_blt I hg2 hm2 PyProof.Rows.boot_set ?_)
  refine PyProof.Rows.callWith_type1 (PyProof.Rows.args_cons (thn (ha.run pins s σ H (fun x H2 => ∃ d G' ρ', Rel c B G' A H2 σ ρ' ∧ Rep c G' x d ∧ After c B W G' A H2 σ (M.lift (sLenSet d) ρ') fun d _ G' H' => ∀ v, Rep c G' v d → Q v H') I ?_) fun v s1 ⟨x, H1, I1, r1, q1⟩ => PyProof.Rows.args_nil ?_) na) na rfl
  · exact ⟨G, A, ρ, R, h.split.imp fun d ρ1 G1 H1 _ _ R1 q v r => ⟨d, G1, ρ1, R1, r, q⟩⟩
  · obtain ⟨d, G', ρ', R', r, q⟩ := q1
    obtain ⟨e, he, q⟩ := q.lift R'
    cases d <;> first | (cases he; done) | skip
    rename_i ds
    have he : ((intsOf ds).bind fun is => if is.length ≤ 4000 then some (D.int (dedupI is).length) else none) = some e := he
    cases hi : intsOf ds with
    | none => rw [hi] at he; cases he
    | some ns =>
      rw [hi] at he
      have he : (if ns.length ≤ 4000 then some (D.int (dedupI ns).length) else none) = some e := he
      split at he
      · rename_i hl4
        cases he
        cases r with
        | tup h1 rl =>
          rename_i l xs
          have ex := repI rl hi
          subst ex
          cases r1
          have hS : SqT X.K H1 l (ns.map V.int) := by rw [← hK]; exact (h1.mono R'.same).sq
          obtain ⟨its, rv, pl, hz⟩ := I1.tuple hS
          have hii : PyProof.Rows.IntsAre its.toArray.toList ns := ints_of_vals rv
          refine call_set_tupI ns (I1.ok.hd hc) (show s1.heap.IsTuple l its.toArray from pl) hii (by unfold scanBound; omega) fun h' tk c0 R1 hcn hk => ?_
          refine PyProof.Rows.args_nil ?_
          obtain ⟨o, es, ep, t, ho, hex, hd, g, nd, hm3, hb, hf, hn, _⟩ := R1
          have I2 : Inv X pins σ H1 { s1 with heap := h', toks := tk } := I1.kept fun b o e => hk b o e
          have el : es.size = (dedupI ns).length := by
            have e1 : es.size = (es.toList.map keyOf).length := by simp
            rw [e1]
            have m1 : ∀ k, k ∈ es.toList.map keyOf ↔ k ∈ dedupI ns := fun k => by rw [mem_dedupI, ← hm3 k, decide_eq_true_eq]
            exact Nat.le_antisymm (len_sub nd fun x hx => (m1 x).mp hx) (len_sub (nodup_dedupI ns) fun x hx => (m1 x).mpr hx)
          refine call_len_set ho hex hd hf (by rw [hn]; omega) ⟨.int es.size, H1, I2.tok _, ⟨_, rfl⟩, ?_⟩
          rw [el]
          exact q _ (.int _)
      · cases he
/-! ### dicts -/
def keyD : D → Option Key
  | .int i => some (.inl i)
  | .str x => some (.inr x)
  | _ => none
theorem rep_key {v : V} {d : D} {k : Key} (r : Rep c G v d) (h : keyD d = some k) : v = kV k := by
  cases r <;> cases h <;> rfl
def valD (ks : List Key) (ds : List D) (k : Key) : Option D := ((ks.zip ds).find? fun p => decide (p.1 = k)).map (·.2)
theorem rep_val {k : Key} {d : D} : ∀ {ks : List Key} {vs : List V} {ds : List D}, RepL c G vs ds → ks.length = vs.length → valD ks ds k = some d → ∃ v, valV (ks.zip vs) k = some v ∧ Rep c G v d
  | [], _, _, _, _, h => by simp [valD] at h
  | k' :: ks, [], _, _, hl, _ => by cases hl
  | k' :: ks, v :: vs, e :: ds, .cons r t, hl, h => by
    unfold valD at h
    unfold valV
    rw [List.zip_cons_cons, List.find?_cons] at h ⊢
    by_cases hk : k' = k
    · simp only [hk, decide_true, Option.map_some] at h ⊢
      cases h
      exact ⟨v, rfl, r⟩
    · simp only [hk, decide_false] at h ⊢
      exact rep_val t (by simpa using hl) h
def rDix : R2 := fun x y H Q => ∃ a v, x = .ref a ∧ DGet H a y (some v) ∧ Q v H
def sDix : D → D → Option D
  | .dic ks ds, k => (keyD k).bind (valD ks ds)
  | _, _ => none
theorem Opr.dic {v : V} {ks : List Key} {ds : List D} (s : Same G H) (h : Opr c G H v (.dic ks ds)) : ∃ p xs, v = .ref p ∧ Rd H p (.dK (ks.zip xs)) ∧ ks.length = xs.length ∧ RepL c G xs ds := by
  rcases h with h | ⟨p, rfl, xs, h1, h2, h3⟩
  · cases h with
    | dic h1 h2 h3 => exact ⟨_, _, rfl, same_rd s h1, h2, h3⟩
  · exact ⟨p, xs, rfl, .inl h1, h2, h3⟩
theorem Opr.key {x : V} {d : D} {k : Key} (a : Opr c G H x d) (h : keyD d = some k) : x = kV k := by
  refine rep_key (a.rep fun o z => ?_) h
  cases d <;> first | exact z.elim | cases h
theorem semDix : Sem2 c rDix sDix := fun G H x y d1 d2 d Q s a b e k => by
  cases d1 <;> first | (cases e; done) | skip
  rename_i ks ds
  have e : ((keyD d2).bind (valD ks ds)) = some d := e
  cases hk : keyD d2 with
  | none => rw [hk] at e; cases e
  | some kk =>
    rw [hk] at e
    obtain ⟨p, xs, rfl, h1, h2, h3⟩ := a.dic s
    obtain ⟨v, h4, h5⟩ := rep_val h3 h2 e
    have := b.key hk
    subst this
    exact ⟨p, v, rfl, .inl ⟨_, kk, h1, rfl, h4.symm⟩, k.flat s h5⟩
theorem pe_dix {o i : Expr} {td ty : TE} {pos : Pos} (hu : X.A.units + 1 < cLine) (ho : PE X o td) (hi : PE X i ty) (hs : NoSl i := by intro _ _; rfl) : PE X (.Subscript o i pos) (tOp rDix td ty) := pe_imp (pe_dget hu ho hi hs) fun σ H Q h => h
def dcM (g : TgM) (tt : M Bool) (fk fe : M D) (vs : List Nat) : List D → List Key → Cells → Option ((List Key × List D) × Cells)
  | [], _, ρ => some (([], []), ρ)
  | d :: ds, ks, ρ => match g d (wipeC ρ vs) with
    | none => none
    | some ρ1 => match tt ρ1 with
      | .ok b ρ2 => if b = true then (match fk ρ2 with
        | .ok kd ρ3 => match keyD kd with
          | none => none
          | some k => match fe ρ3 with
            | .ok e ρ4 => if (ks.any fun x => decide (x = k)) = true then none else (dcM g tt fk fe vs ds (ks ++ [k]) ρ4).map fun r => ((k :: r.1.1, e :: r.1.2), r.2)
            | _ => none
        | _ => none) else dcM g tt fk fe vs ds ks ρ2
      | _ => none
def mDc (fi : M (List D)) (g : TgM) (tt : M Bool) (fk fe : M D) (vs : List Nat) : M D := fi.bind fun ds => fun ρ => if vs.all (fun v => !isOwn ρ[v]?) = true then (match dcM g tt fk fe vs ds [] ρ with
  | some (r, ρ') => .ok (.dic r.1 r.2) (unwipe ρ ρ' vs)
  | none => .stuck) else .stuck
theorem putK_fresh {ks : List Key} {xs : List V} {k : Key} {v : V} (hl : ks.length = xs.length) (hn : ¬ (ks.any fun x => decide (x = k)) = true) : putK (ks.zip xs) k v = (ks ++ [k]).zip (xs ++ [v]) := by
  unfold putK
  rw [if_neg ?_]
  · rw [List.zip_append hl]; rfl
  · intro z
    obtain ⟨p, hp, e⟩ := List.any_eq_true.mp z
    have e : p.1 = k := of_decide_eq_true e
    exact hn (List.any_eq_true.mpr ⟨p.1, (List.of_mem_zip hp).1, decide_eq_true e⟩)
theorem dc_read {fi : M (List D)} {P : VP} {ts vs : List Nat} {g : TgM} {tt : M Bool} {fk fe : M D} {Q : VK} (ht : ts.all (fun t => vs.contains t) = true) (hB : B.all (fun q => !vs.contains q.1) = true) (h : tF c B W (mDc fi g tt fk fe vs) σ H Q) :
    tDc (tI c B W P fi) (tG c B P ts g) (tT c B W0 tt) (tM c B W0 fk) (tM c B W0 fe) vs σ H Q := by
  have ht' : ∀ t ∈ ts, t ∈ vs := fun t h => by
    have := List.all_eq_true.mp ht t h
    simpa using this
  obtain ⟨G, A, ρ, R, a⟩ := h
  refine ⟨G, A, ρ, R, a.split.imp fun ds ρ1 G1 H1 _ _ R1 a1 J okJ D hD => ?_⟩
  have a1 : After c B W G1 A H1 σ (if vs.all (fun v => !isOwn ρ1[v]?) = true then (match dcM g tt fk fe vs ds [] ρ1 with | some (r, ρ') => Out.ok (Fx.D.dic r.1 r.2) (Fx.unwipe ρ1 ρ' vs) | none => .stuck) else .stuck) _ := a1
  cases hv : vs.all (fun v => !isOwn ρ1[v]?) with
  | false =>
    rw [if_neg (by rw [hv]; exact Bool.false_ne_true)] at a1
    exact a1.elim
  | true =>
    rw [if_pos hv] at a1
    cases hl : dcM g tt fk fe vs ds [] ρ1 with
    | none => rw [hl] at a1; exact a1.elim
    | some r =>
      obtain ⟨⟨kf, es⟩, ρe⟩ := r
      rw [hl] at a1
      have gD : G1 D = none := R1.same.free hD
      have nD : ¬ A D := fun z => by obtain ⟨_, o, q⟩ := R1.ownA D z; rw [hD] at q; cases q
      refine ⟨fun i n H2 => n = ds.length - i ∧ i ≤ ds.length ∧ ∃ G2 ρ2 acc ks1 ks2 es1 es2, Same G1 G2 ∧ G2 D = none ∧ Keep A G1 H1 G2 H2 ∧ Rel c B G2 A H2 (L2.wipe σ vs) (wipeC ρ2 vs) ∧ H2 D = some (.dK (ks1.zip acc)) ∧ ks1.length = acc.length ∧ RepL c G2 acc es1 ∧ acc.length ≤ i ∧
        dcM g tt fk fe vs (ds.drop i) ks1 ρ2 = some ((ks2, es2), ρe) ∧ ks1 ++ ks2 = kf ∧ es1 ++ es2 = es, ⟨_, rfl, Nat.zero_le _, G1, ρ1, [], [], kf, [], es, Same.refl _, gD, fun b o e n => ⟨by rw [upd_ne (ne_of_none e hD)]; exact e, rfl⟩, (R1.other gD nD fun b hb => upd_ne hb).wipe hB, upd_same, rfl, .nil, Nat.le_refl _, hl, rfl, rfl⟩, ?_⟩
      rintro i n H2 ⟨rfl, hi, G2, ρ2, acc, ks1, ks2, es1, es2, s2, g2, k2, R2, hacc, hkl, racc, hlen, hlc, hks, hes⟩
      by_cases hlt : i < ds.length
      · refine .inr ⟨okJ.go i H2 hlt (s2.trans R2.same), fun H' => ∃ G2 ρ2 acc ks1 ks2 es1 es2, Same G1 G2 ∧ G2 D = none ∧ Keep A G1 H1 G2 H' ∧ Rel c B G2 A H' (L2.wipe σ vs) (wipeC ρ2 vs) ∧ H' D = some (.dK (ks1.zip acc)) ∧ ks1.length = acc.length ∧ RepL c G2 acc es1 ∧ acc.length ≤ i + 1 ∧
          dcM g tt fk fe vs (ds.drop (i + 1)) ks1 ρ2 = some ((ks2, es2), ρe) ∧ ks1 ++ ks2 = kf ∧ es1 ++ es2 = es, fun H' q => ⟨_, by omega, rfl, hlt, q⟩, fun x H3 hy => ?_⟩
        obtain ⟨G3, d, e1, x3, pr⟩ := okJ.yld i G2 H2 x H3 hlt s2 R2.same hy
        have R3 := R2.ext x3
        have hacc3 := x3.hh D _ hacc
        have g3 : G3 D = none := (x3.new D _ hacc).trans g2
        have k3 : Keep A G1 H1 G3 H3 := k2.trans x3.keep
        have ed : ds.drop i = d :: ds.drop (i + 1) := by
          rw [List.drop_eq_getElem_cons hlt]
          congr 1
          rw [List.getElem?_eq_getElem hlt] at e1
          exact Option.some.inj e1
        rw [ed] at hlc
        unfold dcM at hlc
        cases eg : g d (wipeC ρ2 vs) with
        | none => rw [eg] at hlc; cases hlc
        | some ρ3 =>
          rw [eg] at hlc
          refine ⟨G3, A, _, d, ρ3, R3, pr, eg, fun σ4 R4 o4 => ⟨wipe_only o4 ht', G3, A, ρ3, R4, ?_⟩⟩
          have ew := wipe_only o4 ht'
          cases et : tt ρ3 with
          | stuck => simp only [et] at hlc; cases hlc
          | exc x r => simp only [et] at hlc; cases hlc
          | ok b ρ4 =>
            simp only [et] at hlc
            intro G4 H4 s4 k4 R5
            have hacc4 := k4 D _ hacc3 nD
            refine ite_prop (fun eb => ?_) (fun eb => ?_)
            · rw [if_pos eb] at hlc
              refine ⟨G4, A, ρ4, R5, ?_⟩
              cases ek : fk ρ4 with
              | stuck => simp only [ek] at hlc; cases hlc
              | exc x r => simp only [ek] at hlc; cases hlc
              | ok kd ρ4' =>
                simp only [ek] at hlc
                intro G4' H4' s4' k4' R5' y ry
                have hacc4' := k4' D _ hacc4.1 nD
                cases hkd : keyD kd with
                | none => simp only [hkd] at hlc; cases hlc
                | some k =>
                  simp only [hkd] at hlc
                  have ey := rep_key ry hkd
                  subst ey
                  refine ⟨G4', A, ρ4', R5', ?_⟩
                  cases ef : fe ρ4' with
                  | stuck => simp only [ef] at hlc; cases hlc
                  | exc x r => simp only [ef] at hlc; cases hlc
                  | ok e ρ5 =>
                    simp only [ef] at hlc
                    intro G5 H5 s5 k5 R6 v rv
                    have hacc5 := k5 D _ hacc4'.1 nD
                    by_cases hct : (ks1.any fun x => decide (x = k)) = true
                    · rw [if_pos hct] at hlc; cases hlc
                    · rw [if_neg hct] at hlc
                      cases er : dcM g tt fk fe vs (ds.drop (i + 1)) (ks1 ++ [k]) ρ5 with
                      | none => rw [er] at hlc; cases hlc
                      | some r =>
                        obtain ⟨⟨ks3, es3⟩, ρe'⟩ := r
                        rw [er] at hlc
                        have hlc' : some ((k :: ks3, e :: es3), ρe') = some ((ks2, es2), ρe) := hlc
                        cases hlc'
                        have g5 : G5 D = none := hacc5.2.trans (hacc4'.2.trans (hacc4.2.trans g3))
                        have hsl := okJ.len
                        have sg : Same G2 G5 := x3.gg.trans (s4.trans (s4'.trans s5))
                        refine ⟨ks1.zip acc, k, rfl, hacc5.1, by rw [List.length_zip]; omega, G5, ρ5, acc ++ [v], ks1 ++ [k], ks3, es1 ++ [e], es3, s2.trans sg, g5, ?_, ?_, ?_, by simp [hkl], (racc.mono sg).append (.one rv), by rw [List.length_append]; simp; exact hlen, er, by rw [List.append_assoc]; exact hks, by rw [List.append_assoc]; exact hes⟩
                        · intro b o hb hn
                          have q := (k3.trans (k4.trans (k4'.trans k5))) b o hb hn
                          exact ⟨by rw [upd_ne (ne_of_none hb hD)]; exact q.1, q.2⟩
                        · rw [← ew]
                          exact (R6.other g5 nD fun b hb => upd_ne hb).wipe hB
                        · rw [upd_same, putK_fresh hkl hct]
            · rw [if_neg (by rw [eb]; exact Bool.false_ne_true)] at hlc
              refine ⟨G4, ρ4, acc, ks1, ks2, es1, es2, s2.trans (x3.gg.trans s4), hacc4.2.trans g3, k3.trans k4, ?_, hacc4.1, hkl, racc.mono (x3.gg.trans s4), by omega, hlc, hks, hes⟩
              rw [← ew]
              exact R5.wipe hB
      · have ei : i = ds.length := by omega
        subst ei
        rw [List.drop_length] at hlc
        cases hlc
        rw [List.append_nil] at hes hks
        subst hes
        subst hks
        have R3 : Rel c B G2 A (fun b => if b = D then none else H2 b) (L2.wipe σ vs) (wipeC ρe vs) := R2.other g2 nD fun b hb => if_neg hb
        have R4 := R1.unwipe s2 hv hB R3
        refine .inl ⟨okJ.stop H2 (s2.trans R2.same), a1 G2 _ s2 (fun b o hb hn => ?_) R4 D H2 (if_pos rfl) (fun b o hb => ?_) ⟨acc, hacc, hkl, racc⟩⟩
        · have q := k2 b o hb hn
          exact ⟨by show (if b = D then none else H2 b) = some o; rw [if_neg (ne_of_none hb hD)]; exact q.1, q.2⟩
        · have hb : (if b = D then none else H2 b) = some o := hb
          by_cases z : b = D
          · rw [if_pos z] at hb; cases hb
          · rw [if_neg z] at hb; exact hb
end
end Fx
set_option Elab.async false
set_option linter.all false
set_option maxRecDepth 100000
set_option maxHeartbeats 4000000
/-! Fx15: dict comprehensions as statements, a new list handed in, callees by name. -/
namespace Fx
open PySem L2
section
variable {c : Cf} {B : List (Nat × Addr)} {W : WX} {X : Cx} {G H : Hp} {A : Addr → Prop} {σ : L2.St} {ρ : Cells} {Z : Ends}
theorem pf_dc {kx vx tg iter : Expr} {ifs : List Expr} {scope : Scope} (own : List (Str × Nat)) {pos : Pos} {fi : M (List D)} {P : VP} {ts : List Nat} {g : TgM} {tt : M Bool} {fk fe : M D} (hc : X.calm = true) (hN : X.N.Nodup) (hi : PI X tg iter (tI c B W P fi)) (ok : BlkOk X.N X.env.scope scope own)
    (ht : ts.all (fun t => (own.map (·.2)).contains t) = true) (hB : B.all (fun q => !(own.map (·.2)).contains q.1) = true)
    (hg : ∀ (s : Shared) (H : Hp) (C : Addr) (cl : List (Str × Addr)) (fp : List Addr), PG (X.blk s H scope (compEnvC scope cl C X.env) fp) tg (tG c B P ts g)) (htt : ∀ (s : Shared) (H : Hp) (C : Addr) (cl : List (Str × Addr)) (fp : List Addr), PTs (X.blk s H scope (compEnvC scope cl C X.env) fp) ifs (tT c B W0 tt))
    (hk : ∀ (s : Shared) (H : Hp) (C : Addr) (cl : List (Str × Addr)) (fp : List Addr), PE (X.blk s H scope (compEnvC scope cl C X.env) fp) kx (tM c B W0 fk))
    (he : ∀ (s : Shared) (H : Hp) (C : Addr) (cl : List (Str × Addr)) (fp : List Addr), PE (X.blk s H scope (compEnvC scope cl C X.env) fp) vx (tM c B W0 fe)) (hs : ∀ x, foldedSetIterable iter X.env x = pure x := by intro _; rfl) :
    PE X (.DictComp kx vx [⟨tg, iter, ifs, 0⟩] scope pos) (tF c B W (mDc fi g tt fk fe (own.map (·.2)))) :=
  pe_imp (pe_dc hc hN hi ok hg htt hk he hs) fun σ H Q h => dc_read ht hB h
theorem ps_setDc {i : Nat} {y : Str} {py : Pos} {kx vx tg iter : Expr} {ifs : List Expr} {scope : Scope} {own : List (Str × Nat)} {pos spos : Pos} {wi : TI} {g : TG} {tt : TT} {tk tv : TE} (hc : X.calm = true) (hN : X.N.Nodup) (hy : X.N[i]? = some y) (hyl : X.env.scope.names.lookup y = some .local)
    (hsw : swapsWith (.DictComp kx vx [⟨tg, iter, ifs, 0⟩] scope pos) (some (.Name y py)) spos.line X.env = pure true) (hi : PI X tg iter wi) (ok : BlkOk X.N X.env.scope scope own)
    (hg : ∀ (s : Shared) (H : Hp) (C : Addr) (cl : List (Str × Addr)) (fp : List Addr), PG (X.blk s H scope (compEnvC scope cl C X.env) fp) tg g) (ht : ∀ (s : Shared) (H : Hp) (C : Addr) (cl : List (Str × Addr)) (fp : List Addr), PTs (X.blk s H scope (compEnvC scope cl C X.env) fp) ifs tt)
    (hk : ∀ (s : Shared) (H : Hp) (C : Addr) (cl : List (Str × Addr)) (fp : List Addr), PE (X.blk s H scope (compEnvC scope cl C X.env) fp) kx tk)
    (he : ∀ (s : Shared) (H : Hp) (C : Addr) (cl : List (Str × Addr)) (fp : List Addr), PE (X.blk s H scope (compEnvC scope cl C X.env) fp) vx tv) (hs : ∀ x, foldedSetIterable iter X.env x = pure x := by intro _; rfl) :
    PS X (.Assign [.Name y py] (.DictComp kx vx [⟨tg, iter, ifs, 0⟩] scope pos) spos) (tAsg (tDc wi g tt tk tv (own.map (·.2))) (gName i)) := by
  refine ⟨fun pins s σ H D I h => ?_⟩
  rw [exec_Assign_Name_used _ _ _ _ hsw]
  refine wpAny_bind (wpAny_standAt (wpAny_bind ?_))
  show wpAny _ X.A (do let _ ← comprehension (.DictComp kx vx [⟨tg, iter, ifs, 0⟩] scope pos) scope X.env (firstIterPos [⟨tg, iter, ifs, 0⟩] pos) newDict false (eval iter X.env) (some (assign (.Name y py) X.env))) _ _ s
  have h : tDc wi g tt tk tv (own.map (·.2)) σ H (fun x H1 => gName i x σ H1 D.nx) := h
  refine wpAny_bind (thn (dc_core (Qf := fun _ s' => SP X pins D .next s') hc hN I hi ok hg ht hk he hs h fun L C s' m H' I' q hn f => ?_) fun _ s' hq => wpAny_pure (wpAny_pure hq))
  show wpAny _ _ (assign (.Name y py) X.env (.ref L)) _ _ _
  refine wpAny_assign_Name (store_ok2 (v := V.ref L) I' hN hy (.inl hyl) rfl (fun s2 I2 ⟨a, sb, ha⟩ => ?_) (.inr hyl))
  obtain ⟨f0, f1, f2, f3, f4, f5⟩ := f
  have haC : C ≠ a := by
    rcases ha with z | z
    · rw [z]; exact f1
    · exact fun e => f4 y a z e.symm
  refine ⟨m, hn.sameBut sb haC, fun h3 sb3 => ?_⟩
  exact ⟨_, H', I2.turned (t' := s2.toks) (fun b o hb e => (sb3.2 b hb).trans e) f0 f1 f3 f4 f5, q⟩
theorem ps_asgDc (i : Nat) {y : Str} {py : Pos} {kx vx tg iter : Expr} {ifs : List Expr} {scope : Scope} (own : List (Str × Nat)) {pos spos : Pos} {fi : M (List D)} {P : VP} {ts : List Nat} {g : TgM} {tt : M Bool} {fk fe : M D} (hc : X.calm = true) (hN : X.N.Nodup) (hy : X.N[i]? = some y) (hyl : X.env.scope.names.lookup y = some .local)
    (hsw : swapsWith (.DictComp kx vx [⟨tg, iter, ifs, 0⟩] scope pos) (some (.Name y py)) spos.line X.env = pure true) (hb : B.all (fun q => q.1 != i) = true) (hi : PI X tg iter (tI c B W P fi)) (ok : BlkOk X.N X.env.scope scope own)
    (ht : ts.all (fun t => (own.map (·.2)).contains t) = true) (hB : B.all (fun q => !(own.map (·.2)).contains q.1) = true)
    (hg : ∀ (s : Shared) (H : Hp) (C : Addr) (cl : List (Str × Addr)) (fp : List Addr), PG (X.blk s H scope (compEnvC scope cl C X.env) fp) tg (tG c B P ts g)) (htt : ∀ (s : Shared) (H : Hp) (C : Addr) (cl : List (Str × Addr)) (fp : List Addr), PTs (X.blk s H scope (compEnvC scope cl C X.env) fp) ifs (tT c B W0 tt))
    (hk : ∀ (s : Shared) (H : Hp) (C : Addr) (cl : List (Str × Addr)) (fp : List Addr), PE (X.blk s H scope (compEnvC scope cl C X.env) fp) kx (tM c B W0 fk))
    (he : ∀ (s : Shared) (H : Hp) (C : Addr) (cl : List (Str × Addr)) (fp : List Addr), PE (X.blk s H scope (compEnvC scope cl C X.env) fp) vx (tM c B W0 fe)) (hs : ∀ x, foldedSetIterable iter X.env x = pure x := by intro _; rfl) :
    PS X (.Assign [.Name y py] (.DictComp kx vx [⟨tg, iter, ifs, 0⟩] scope pos) spos) (tS c B W (mAsg (mDc fi g tt fk fe (own.map (·.2))) (gNm i))) :=
  ps_imp (ps_setDc hc hN hy hyl hsw hi ok hg htt hk he hs) fun Z σ H ⟨G, A, ρ, R, a⟩ => by
    refine dc_read (W := W) ht hB ⟨G, A, ρ, R, (a.split R).imp fun d ρ' G' H' _ _ R' q p H2 hp hh ho => ?_⟩
    obtain ⟨G2, x2, r2⟩ := ext_own R'.same hp hh ho
    exact AfterS.nx (AfterS.of R'.own_there (Stp.same x2.gg x2.keep) q) ((R'.ext x2).setDat r2 hb)
/-! ### f([..], e, ..): a new list by reference, dropped behind the call -/
def mCallN (F : Fn) (f : M D) (fs : List (M D)) : M D := f.bind fun d => (seqM fs).bind fun ds ρ => match F (d :: ds) with
  | .stuck => .stuck
  | .ret e _ => .ok e ρ
  | .exc x _ => .exc x ρ
theorem pm_callN {F : Fn} {g : M D} {fs : List (M D)} {k n : Nat} {f : Addr} {fd : FuncData} {ps : List Str} {x : Str} {p pos : Pos} {e : Expr} {es : List Expr}
    (Fo : FnOk X.prog X.w X.K X.mg X.base (L2.CX X.prog X.w) k f fd ps (spM c [0] n F)) (hr : Room k X.A) (tk : Takes X W) (hm : X.mg x = some (.ref f)) (hk : PySem.W.keepIn X.K (.ref f) = true) (hb : Binds X.K fd ps [])
    (he0 : PE X e (tF c B W g)) (ha : PA X es (tD c B W fs)) (hn : fs.length + 1 = n := by rfl) (hg : Gl X x := by rfl) (hdb : (x == ("__debug__" : Str)) = false := by decide)
    (he : starEach (e :: es) X.env = (false, eval e X.env) :: starEach es X.env := by rfl) (hpl : (backTo pos (starEach es X.env)).any (·.1) = false := by rfl) :
    PE X (.Call (.Name x p) (e :: es) [] pos) (tM c B W (mCallN F g fs)) :=
  pe_imp (pe_callSD Fo hr hg hm hk hb .nil (fun σ => passAt tk σ) (pa_cons he0 ha he) hdb he hpl) fun σ H Q ⟨G, A, ρ, R, a⟩ => by
    refine ⟨G, A, ρ, R, a.split.imp fun d ρ1 G1 H1 _ _ R1 a1 p0 H2 hp hh ho => ?_⟩
    have R2 : Rel c B G1 A H2 σ ρ1 := R1.ext ⟨Same.refl _, hh, R1.same.trans hh, fun _ _ _ => rfl⟩
    refine ⟨G1, A, ρ1, R2, ?_⟩
    have a2 := a1.split.len
    have np : ¬ A p0 := fun z => by obtain ⟨_, o, q⟩ := R1.ownA p0 z; rw [hp] at q; cases q
    have gp : G1 p0 = none := R1.same.free hp
    obtain ⟨o0, ho0⟩ := ho.some
    cases es' : seqM fs ρ1 with
    | stuck => rw [es'] at a2; exact a2.elim
    | exc y ρ3 =>
      rw [es'] at a2
      exact After.of (Same.refl _) (fun b o e _ => ⟨hh b o e, rfl⟩) (show After c B W G1 A H1 σ (.exc y ρ3) _ from a2)
    | ok ds ρ3 =>
      rw [es'] at a2
      intro G3 H3 s3 k3 R3 vs rv
      have hp3 := k3 p0 o0 ho0 np
      have g3 : G3 p0 = none := hp3.2.trans gp
      have R3' : Rel c B G3 A (fun b => if b = p0 then none else H3 b) σ ρ3 := R3.other g3 np fun b hb => if_neg hb
      obtain ⟨hl, q⟩ := a2 G3 _ s3 (fun b o hb hn => by
        have q := k3 b o (hh b o hb) hn
        exact ⟨by show (if b = p0 then none else H3 b) = some o; rw [if_neg (ne_of_none hb hp)]; exact q.1, q.2⟩) R3'
      simp only [List.append_nil]
      refine ⟨G3, fun b => b = p0, d :: ds, by rw [List.length_cons, hl]; exact hn, ⟨R3.same, fun b hb => by rw [hb]; exact ⟨g3, _, hp3.1⟩, by rw [List.length_cons, List.length_cons, rv.length], fun i d' hd hi => ?_, fun i d' hd hi => ?_, fun i j p hij hi hj => ?_⟩, ?_⟩
      · cases i with
        | zero => simp at hi
        | succ i =>
          obtain ⟨v, h1, h2⟩ := rv.get (i := i) (d := d') (by simpa using hd)
          exact ⟨v, by simpa using h1, h2⟩
      · have hi0 : i = 0 := by simpa using hi
        subst hi0
        have hd' : d = d' := by simpa using hd
        subst hd'
        refine ⟨p0, rfl, rfl, ?_⟩
        rw [hp3.1, ← ho0]
        exact ho.mono s3
      · have h1 : i = 0 := by simpa using hi
        have h2 : j = 0 := by simpa using hj
        exact absurd (h1.trans h2.symm) hij
      · have ext : ∀ {outs : List D} {G' H' : Hp}, Ret c [0] G3 (fun b => b = p0) H3 (V.ref p0 :: vs) outs G' H' → Ext G3 (fun b => if b = p0 then none else H3 b) G' H' := fun {outs G' H'} r =>
          ⟨r.gg, fun b o e => by
            by_cases z : b = p0
            · rw [if_pos z] at e; cases e
            · rw [if_neg z] at e; exact (r.kp b o e z).1, r.gh, fun b o e => by
            by_cases z : b = p0
            · rw [if_pos z] at e; cases e
            · rw [if_neg z] at e; exact (r.kp b o e z).2⟩
        have q : After c B W G3 A (fun b => if b = p0 then none else H3 b) σ (match F (d :: ds) with
          | .stuck => .stuck
          | .ret e _ => .ok e ρ3
          | .exc x _ => .exc x ρ3) (fun d _ G' H' => ∀ v, Rep c G' v d → Q v H') := q
        cases ef : F (d :: ds) with
        | stuck => rw [ef] at q; exact q.elim
        | ret e outs =>
          rw [ef] at q
          intro G' H' v r rv
          have ee := ext r
          exact q G' H' ee.gg ee.keep (R3'.ext ee) v rv
        | exc y outs =>
          rw [ef] at q
          intro G' H' dd r rx
          have ee := ext r
          exact q G' H' dd ee.gg ee.keep (R3'.ext ee) rx
end
/-! ### callees -/
section
variable {P : Program} {w : World} {K : PySem.W.Frag} {mg : Str → Option Value} {base : Heap} {c : Cf}
/-- the def that stands under the name nm -/
structure Cal (P : Program) (w : World) (K : PySem.W.Frag) (mg : Str → Option Value) (base : Heap) (c : Cf) (k : Nat) (nm : Str) (bs : List Nat) (n : Nat) (F : Fn) : Prop where
  ex : ∃ f fd ps, FnOk P w K mg base (L2.CX P w) k f fd ps (spM c bs n F) ∧ mg nm = some (.ref f) ∧ PySem.W.keepIn K (.ref f) = true ∧ Binds K fd ps []
theorem Cal.mono {k j : Nat} {nm : Str} {bs : List Nat} {n : Nat} {F : Fn} (h : Cal P w K mg base c k nm bs n F) (hk : k ≤ j) : Cal P w K mg base c j nm bs n F := by
  obtain ⟨f, fd, ps, h1, h2⟩ := h.ex
  exact ⟨f, fd, ps, h1.mono hk, h2⟩
/-- n parameters ahead, one by keyword alone, its default: () -/
structure CalK (P : Program) (w : World) (K : PySem.W.Frag) (mg : Str → Option Value) (base : Heap) (c : Cf) (k : Nat) (nm : Str) (n : Nat) (ky : Str) (F : Fn) : Prop where
  ex : ∃ f fd ps vds dvs, FnOk P w K mg base (L2.CX P w) k f fd ps (spM c [] (n + 1) F) ∧ mg nm = some (.ref f) ∧ PySem.W.keepIn K (.ref f) = true ∧ Binds K fd ps vds ∧ Vals dvs vds ∧ (∀ G, RepL c G dvs [.tup []]) ∧
    KBn K fd ps n [ky] (fun us ws => us ++ ws) (fun vs zs => vs ++ zs)
theorem CalK.mono {k j : Nat} {nm : Str} {n : Nat} {ky : Str} {F : Fn} (h : CalK P w K mg base c k nm n ky F) (hk : k ≤ j) : CalK P w K mg base c j nm n ky F := by
  obtain ⟨f, fd, ps, vds, dvs, h1, h2⟩ := h.ex
  exact ⟨f, fd, ps, vds, dvs, h1.mono hk, h2⟩
end
section
variable {c : Cf} {B : List (Nat × Addr)} {W : WX} {X : Cx}
theorem pm_cal {F : Fn} {os : List Opn} {k j n : Nat} {x : Str} {p pos : Pos} {e : Expr} {es : List Expr} (C : Cal X.prog X.w X.K X.mg X.base c j x (ownPos 0 os) n F) (hr : Room k X.A) (tk : Takes X W) (ha : PA X (e :: es) (tR c B W os)) (hj : j ≤ k := by decide)
    (nd : (ownSlots os).Nodup := by decide) (hn : os.length + 0 = n := by rfl) (hg : Gl X x := by rfl) (hdb : (x == ("__debug__" : Str)) = false := by decide)
    (he : starEach (e :: es) X.env = (false, eval e X.env) :: starEach es X.env := by rfl) (hpl : (backTo pos (starEach es X.env)).any (·.1) = false := by rfl) :
    PE X (.Call (.Name x p) (e :: es) [] pos) (tM c B W (mCallF F os)) := by
  obtain ⟨f, fd, ps, h1, h2, h3, h4⟩ := C.ex
  have q := pm_callF (p := p) (dds := []) h1 (hr.mono hj) tk h2 h3 h4 .nil (fun _ => .nil) ha nd hn hg hdb he hpl
  simp only [List.append_nil] at q
  exact q
theorem pm_calN {F : Fn} {g : M D} {fs : List (M D)} {k j n : Nat} {x : Str} {p pos : Pos} {e : Expr} {es : List Expr} (C : Cal X.prog X.w X.K X.mg X.base c j x [0] n F) (hr : Room k X.A) (tk : Takes X W) (he0 : PE X e (tF c B W g)) (ha : PA X es (tD c B W fs)) (hj : j ≤ k := by decide)
    (hn : fs.length + 1 = n := by rfl) (hg : Gl X x := by rfl) (hdb : (x == ("__debug__" : Str)) = false := by decide)
    (he : starEach (e :: es) X.env = (false, eval e X.env) :: starEach es X.env := by rfl) (hpl : (backTo pos (starEach es X.env)).any (·.1) = false := by rfl) :
    PE X (.Call (.Name x p) (e :: es) [] pos) (tM c B W (mCallN F g fs)) := by
  obtain ⟨f, fd, ps, h1, h2, h3, h4⟩ := C.ex
  exact pm_callN h1 (hr.mono hj) tk h2 h3 h4 he0 ha hn hg hdb he hpl
/-- the keyword left out -/
theorem pm_calD {F : Fn} {os : List Opn} {k j n : Nat} {x ky : Str} {p pos : Pos} {e : Expr} {es : List Expr} (C : CalK X.prog X.w X.K X.mg X.base c j x n ky F) (hr : Room k X.A) (tk : Takes X W) (ha : PA X (e :: es) (tR c B W os)) (hj : j ≤ k := by decide)
    (h0 : ownPos 0 os = [] := by rfl) (nd : (ownSlots os).Nodup := by decide) (hn : os.length + 1 = n + 1 := by rfl) (hg : Gl X x := by rfl) (hdb : (x == ("__debug__" : Str)) = false := by decide)
    (he : starEach (e :: es) X.env = (false, eval e X.env) :: starEach es X.env := by rfl) (hpl : (backTo pos (starEach es X.env)).any (·.1) = false := by rfl) :
    PE X (.Call (.Name x p) (e :: es) [] pos) (tM c B W (mCallF (fun ds => F (ds ++ [.tup []])) os)) := by
  obtain ⟨f, fd, ps, vds, dvs, h1, h2, h3, h4, h5, h6, h7⟩ := C.ex
  exact pm_callF (by rw [h0]; exact h1) (hr.mono hj) tk h2 h3 h4 h5 h6 ha nd hn hg hdb he hpl
theorem pm_calK {F : Fn} {fs : List (M D)} {g : M D} {k j n : Nat} {x ky : Str} {p pos kpos : Pos} {e a : Expr} {es : List Expr} (C : CalK X.prog X.w X.K X.mg X.base c j x n ky F) (hr : Room k X.A) (tk : Takes X W) (ha : PA X (e :: es) (tD c B W fs)) (hkw : PE X a (tM c B W g)) (hj : j ≤ k := by decide)
    (hn : fs.length = n := by rfl) (hg : Gl X x := by rfl) (hall : (backToKw pos (keywordEach [⟨some ky, a, kpos⟩] X.env)).all (·.1.isSome) = true := by rfl) (hks : (backToKw pos (keywordEach [⟨some ky, a, kpos⟩] X.env)).filterMap (·.1) = [ky] := by rfl)
    (hdb : (x == ("__debug__" : Str)) = false := by decide) (he : starEach (e :: es) X.env = (false, eval e X.env) :: starEach es X.env := by rfl)
    (hpl : ((backTo pos (starEach (e :: es) X.env)).any (·.1) || (backToKw pos (keywordEach [⟨some ky, a, kpos⟩] X.env)).any (·.1.isNone)) = false := by rfl) :
    PE X (.Call (.Name x p) (e :: es) [⟨some ky, a, kpos⟩] pos) (tM c B W (mCallK F (fun ds es => ds ++ es) fs [g])) := by
  obtain ⟨f, fd, ps, vds, dvs, h1, h2, h3, h4, h5, h6, h7⟩ := C.ex
  exact pm_callK h1 (hr.mono hj) tk h2 h3 h7 (fun G vs zs ds es l1 l2 r1 r2 => ⟨r1.append r2, by rw [List.length_append, ← r1.length, ← r2.length, l1, l2]; rfl⟩) ha (pkd_cons hkw pkd_nil) hn rfl hg hall hks hdb he hpl
end
end Fx
set_option Elab.async false
set_option linter.all false
set_option maxRecDepth 100000
set_option maxHeartbeats 4000000
/-! Fx16: the constructs by one name each, for the printer. -/
namespace Fx
open PySem L2
/-- the built-in names that the module has not bound -/
structure Blt (mg : Str → Option Value) : Prop where
  zlen : mg "len" = none
  ztuple : mg "tuple" = none
  zlist : mg "list" = none
  zint : mg "int" = none
  zsum : mg "sum" = none
  zall : mg "all" = none
  zmax : mg "max" = none
  zmin : mg "min" = none
  zsorted : mg "sorted" = none
  zisinstance : mg "isinstance" = none
  zenumerate : mg "enumerate" = none
  zrange : mg "range" = none
  zset : mg "set" = none
  zbool : mg "bool" = none
  zstr : mg "str" = none
section
variable {c : Cf} {B : List (Nat × Addr)} {W : WX} {X : Cx} {G H : Hp} {A : Addr → Prop} {σ : L2.St} {ρ : Cells} {Z : Ends}
theorem takes0 : Takes X W0 := fun u s' ⟨_, _, _, _, _, _, _, _, _, _, _, _, _, _, _, _, w⟩ => w.elim
theorem passE {E : XK} (tk : Takes X (fun cls d _ H => E cls d H)) : Passes (L2.CX X.prog X.w) X E := fun pins σ H s e s' I h => passAt tk σ pins H s e s' I h
/-! operators -/
theorem o_add {a b : Expr} {oa ob : Opn} {pos : Pos} (ha : PE X a (tO c B W oa)) (hb : PE X b (tO c B W ob)) (hK : c.K = X.K := by rfl) : PE X (.BinOp a .Add b pos) (tM c B W (mOp2 sAdd oa ob)) := pm_op semAdd (by rw [hK]; exact pe_op op_addA ha hb)
theorem o_sub {a b : Expr} {oa ob : Opn} {pos : Pos} (ha : PE X a (tO c B W oa)) (hb : PE X b (tO c B W ob)) : PE X (.BinOp a .Sub b pos) (tM c B W (mOp2 sSub oa ob)) := pm_op semSub (pe_op op_sub ha hb)
theorem o_mul {a b : Expr} {oa ob : Opn} {pos : Pos} (ha : PE X a (tO c B W oa)) (hb : PE X b (tO c B W ob)) : PE X (.BinOp a .Mult b pos) (tM c B W (mOp2 sMul oa ob)) := pm_op semMul (pe_op op_mul ha hb)
theorem o_fdiv {a b : Expr} {oa ob : Opn} {pos : Pos} (ha : PE X a (tO c B W oa)) (hb : PE X b (tO c B W ob)) : PE X (.BinOp a .FloorDiv b pos) (tM c B W (mOp2 sFdiv oa ob)) := pm_op semFdiv (pe_op op_fdivN ha hb)
theorem o_mod {a b : Expr} {oa ob : Opn} {pos : Pos} (ha : PE X a (tO c B W oa)) (hb : PE X b (tO c B W ob)) : PE X (.BinOp a .Mod b pos) (tM c B W (mOp2 sMod oa ob)) := pm_op semMod (pe_op op_modN ha hb)
theorem o_pow {a b : Expr} {oa ob : Opn} {pos : Pos} (ha : PE X a (tO c B W oa)) (hb : PE X b (tO c B W ob)) : PE X (.BinOp a .Pow b pos) (tM c B W (mOp2 sPow oa ob)) := pm_op semPow (pe_op op_pow ha hb)
theorem f_add {a b : Expr} {oa ob : Opn} {pos : Pos} (ha : PE X a (tO c B W oa)) (hb : PE X b (tO c B W ob)) (hK : c.K = X.K := by rfl) : PE X (.BinOp a .Add b pos) (tF c B W (mOp2 sAddL oa ob)) := pf_op semAddL (by rw [hK]; exact pe_op op_catR ha hb)
theorem f_mul {a b : Expr} {oa ob : Opn} {pos : Pos} (ha : PE X a (tO c B W oa)) (hb : PE X b (tO c B W ob)) (hK : c.K = X.K := by rfl) : PE X (.BinOp a .Mult b pos) (tF c B W (mOp2 sMulL oa ob)) := pf_op semMulL (by rw [hK]; exact pe_op op_repR ha hb)
/-! comparisons, as values -/
theorem o_lt {a b : Expr} {oa ob : Opn} {pos : Pos} (ha : PE X a (tO c B W oa)) (hb : PE X b (tO c B W ob)) : PE X (.Compare a [.Lt] [b] pos) (tM c B W (mOp2 sLt oa ob)) := pm_op semLt (pe_cmpR op_lt ha hb (nomark _))
theorem o_le {a b : Expr} {oa ob : Opn} {pos : Pos} (ha : PE X a (tO c B W oa)) (hb : PE X b (tO c B W ob)) : PE X (.Compare a [.LtE] [b] pos) (tM c B W (mOp2 sLe oa ob)) := pm_op semLe (pe_cmpR op_le ha hb (nomark _))
theorem o_gt {a b : Expr} {oa ob : Opn} {pos : Pos} (ha : PE X a (tO c B W oa)) (hb : PE X b (tO c B W ob)) : PE X (.Compare a [.Gt] [b] pos) (tM c B W (mOp2 sGt oa ob)) := pm_op semGt (pe_cmpR op_gt ha hb (nomark _))
theorem o_ge {a b : Expr} {oa ob : Opn} {pos : Pos} (ha : PE X a (tO c B W oa)) (hb : PE X b (tO c B W ob)) : PE X (.Compare a [.GtE] [b] pos) (tM c B W (mOp2 sGe oa ob)) := pm_op semGe (pe_cmpR op_ge ha hb (nomark _))
theorem o_eq {a b : Expr} {oa ob : Opn} {pos : Pos} (hu : X.A.units + 64 < cLine) (ha : PE X a (tO c B W oa)) (hb : PE X b (tO c B W ob)) (hK : c.K = X.K := by rfl) : PE X (.Compare a [.Eq] [b] pos) (tM c B W (mOp2 sEq oa ob)) := pm_op semEq (by rw [hK]; exact pe_cmpR (op_eqN hu) ha hb (nomark _))
theorem o_ne {a b : Expr} {oa ob : Opn} {pos : Pos} (hu : X.A.units + 64 < cLine) (ha : PE X a (tO c B W oa)) (hb : PE X b (tO c B W ob)) (hK : c.K = X.K := by rfl) : PE X (.Compare a [.NotEq] [b] pos) (tM c B W (mOp2 sNe oa ob)) := pm_op semNe (by rw [hK]; exact pe_cmpR (op_neN hu) ha hb (nomark _))
theorem o_in {a b : Expr} {oa ob : Opn} {pos : Pos} (hu : X.A.units + 64 < cLine) (ha : PE X a (tO c B W oa)) (hb : PE X b (tO c B W ob)) (hK : c.K = X.K := by rfl) (hm : behindInMarks .In b = false := by rfl) : PE X (.Compare a [.In] [b] pos) (tM c B W (mOp2 sIn oa ob)) := pm_op semIn (by rw [hK]; exact pe_cmpR (op_inN hu) ha hb hm)
theorem o_nin {a b : Expr} {oa ob : Opn} {pos : Pos} (hu : X.A.units + 64 < cLine) (ha : PE X a (tO c B W oa)) (hb : PE X b (tO c B W ob)) (hK : c.K = X.K := by rfl) (hm : behindInMarks .NotIn b = false := by rfl) : PE X (.Compare a [.NotIn] [b] pos) (tM c B W (mOp2 sNin oa ob)) := pm_op semNin (by rw [hK]; exact pe_cmpR (op_ninN hu) ha hb hm)
theorem o_is {a b : Expr} {oa ob : Opn} {pos : Pos} (ha : PE X a (tO c B W oa)) (hb : PE X b (tO c B W ob)) : PE X (.Compare a [.Is] [b] pos) (tM c B W (mOp2 sIsN oa ob)) := pm_op semIsN (pe_cmpR op_isN ha hb (nomark _))
theorem o_isn {a b : Expr} {oa ob : Opn} {pos : Pos} (ha : PE X a (tO c B W oa)) (hb : PE X b (tO c B W ob)) : PE X (.Compare a [.IsNot] [b] pos) (tM c B W (mOp2 sNotN oa ob)) := pm_op semNotN (pe_cmpR op_notN ha hb (nomark _))
theorem o_chlele {a b d : Expr} {oa ob od : Opn} {pos : Pos} (ha : PE X a (tO c B W oa)) (hb : PE X b (tO c B W ob)) (hd : PE X d (tO c B W od)) (hm : lastMarks [CmpOp.LtE, CmpOp.LtE] [b, d] = false := by with_unfolding_all rfl) : PE X (.Compare a [.LtE, .LtE] [b, d] pos) (tM c B W (mChain sLe sLe oa ob od)) := pm_chain semLe semLe (pe_chain op_le op_le ha hb hd hm)
/-! tests -/
theorem t_lt {a b : Expr} {oa ob : Opn} {pos : Pos} (ha : PE X a (tO c B W oa)) (hb : PE X b (tO c B W ob)) : PT X (.Compare a [.Lt] [b] pos) (tT c B W (mB (mOp2 sLt oa ob))) := pt_op semLt (pt_cmpR op_lt ha hb (nomark _))
theorem t_le {a b : Expr} {oa ob : Opn} {pos : Pos} (ha : PE X a (tO c B W oa)) (hb : PE X b (tO c B W ob)) : PT X (.Compare a [.LtE] [b] pos) (tT c B W (mB (mOp2 sLe oa ob))) := pt_op semLe (pt_cmpR op_le ha hb (nomark _))
theorem t_gt {a b : Expr} {oa ob : Opn} {pos : Pos} (ha : PE X a (tO c B W oa)) (hb : PE X b (tO c B W ob)) : PT X (.Compare a [.Gt] [b] pos) (tT c B W (mB (mOp2 sGt oa ob))) := pt_op semGt (pt_cmpR op_gt ha hb (nomark _))
theorem t_ge {a b : Expr} {oa ob : Opn} {pos : Pos} (ha : PE X a (tO c B W oa)) (hb : PE X b (tO c B W ob)) : PT X (.Compare a [.GtE] [b] pos) (tT c B W (mB (mOp2 sGe oa ob))) := pt_op semGe (pt_cmpR op_ge ha hb (nomark _))
theorem t_eq {a b : Expr} {oa ob : Opn} {pos : Pos} (hu : X.A.units + 64 < cLine) (ha : PE X a (tO c B W oa)) (hb : PE X b (tO c B W ob)) (hK : c.K = X.K := by rfl) : PT X (.Compare a [.Eq] [b] pos) (tT c B W (mB (mOp2 sEq oa ob))) := pt_op semEq (by rw [hK]; exact pt_cmpR (op_eqN hu) ha hb (nomark _))
theorem t_ne {a b : Expr} {oa ob : Opn} {pos : Pos} (hu : X.A.units + 64 < cLine) (ha : PE X a (tO c B W oa)) (hb : PE X b (tO c B W ob)) (hK : c.K = X.K := by rfl) : PT X (.Compare a [.NotEq] [b] pos) (tT c B W (mB (mOp2 sNe oa ob))) := pt_op semNe (by rw [hK]; exact pt_cmpR (op_neN hu) ha hb (nomark _))
theorem t_in {a b : Expr} {oa ob : Opn} {pos : Pos} (hu : X.A.units + 64 < cLine) (ha : PE X a (tO c B W oa)) (hb : PE X b (tO c B W ob)) (hK : c.K = X.K := by rfl) (hm : behindInMarks .In b = false := by rfl) : PT X (.Compare a [.In] [b] pos) (tT c B W (mB (mOp2 sIn oa ob))) := pt_op semIn (by rw [hK]; exact pt_cmpR (op_inN hu) ha hb hm)
theorem t_nin {a b : Expr} {oa ob : Opn} {pos : Pos} (hu : X.A.units + 64 < cLine) (ha : PE X a (tO c B W oa)) (hb : PE X b (tO c B W ob)) (hK : c.K = X.K := by rfl) (hm : behindInMarks .NotIn b = false := by rfl) : PT X (.Compare a [.NotIn] [b] pos) (tT c B W (mB (mOp2 sNin oa ob))) := pt_op semNin (by rw [hK]; exact pt_cmpR (op_ninN hu) ha hb hm)
theorem t_is {a b : Expr} {oa ob : Opn} {pos : Pos} (ha : PE X a (tO c B W oa)) (hb : PE X b (tO c B W ob)) : PT X (.Compare a [.Is] [b] pos) (tT c B W (mB (mOp2 sIsN oa ob))) := pt_op semIsN (pt_cmpR op_isN ha hb (nomark _))
theorem t_isn {a b : Expr} {oa ob : Opn} {pos : Pos} (ha : PE X a (tO c B W oa)) (hb : PE X b (tO c B W ob)) : PT X (.Compare a [.IsNot] [b] pos) (tT c B W (mB (mOp2 sNotN oa ob))) := pt_op semNotN (pt_cmpR op_notN ha hb (nomark _))
theorem t_and {a b : Expr} {rest : List Expr} {pos : Pos} {f g : M Bool} (ha : PT X a (tT c B W f)) (hb : PW X (.BoolOp .And (b :: rest) pos) (tT c B W g)) : PT X (.BoolOp .And (a :: b :: rest) pos) (tT c B W (mAnd f g)) := (pw_andM ha hb).pt
theorem t_or {a b : Expr} {rest : List Expr} {pos : Pos} {f g : M Bool} (ha : PT X a (tT c B W f)) (hb : PW X (.BoolOp .Or (b :: rest) pos) (tT c B W g)) : PT X (.BoolOp .Or (a :: b :: rest) pos) (tT c B W (mOr f g)) := (pw_orM ha hb).pt
/-! subscripts -/
theorem o_ix {a b : Expr} {oa ob : Opn} {pos : Pos} (ha : PE X a (tO c B W oa)) (hb : PE X b (tO c B W ob)) (hK : c.K = X.K := by rfl) (hs : PlainIx b := by intro _ _; rfl) : PE X (.Subscript a b pos) (tM c B W (mOp2 sIx oa ob)) := pm_op semIx (by rw [hK]; exact pe_ix ix_N ha hb hs)
theorem o_dix {a b : Expr} {oa ob : Opn} {pos : Pos} (hu : X.A.units + 64 < cLine) (ha : PE X a (tO c B W oa)) (hb : PE X b (tO c B W ob)) (hs : NoSl b := by intro _ _; rfl) : PE X (.Subscript a b pos) (tM c B W (mOp2 sDix oa ob)) := pm_op semDix (pe_dix (by omega) ha hb hs)
theorem o_sl {a : Expr} {lo hi : Option Expr} {o : Opn} {l u : Option (M D)} {p2 pos : Pos} (ha : PE X a (tO c B W o)) (hl : L2.PO X lo (tPt c B W l)) (hu : L2.PO X hi (tPt c B W u)) (hK : c.K = X.K := by rfl) : PE X (.Subscript a (.Slice lo hi none p2) pos) (tM c B W (mSl sCut o l u)) := pm_sl semCut (by rw [hK]; exact pe_slice sl_N ha hl hu)
theorem f_sl {a : Expr} {lo hi : Option Expr} {o : Opn} {l u : Option (M D)} {p2 pos : Pos} (ha : PE X a (tO c B W o)) (hl : L2.PO X lo (tPt c B W l)) (hu : L2.PO X hi (tPt c B W u)) (hK : c.K = X.K := by rfl) : PE X (.Subscript a (.Slice lo hi none p2) pos) (tF c B W (mSl sCutL o l u)) := pf_sl semCutL (by rw [hK]; exact pe_slice sl_list ha hl hu)
/-! built-in calls -/
theorem b_len {e : Expr} {o : Opn} {p pos : Pos} (T : Blt X.mg) (h : PE X e (tO c B W o)) (hK : c.K = X.K := by rfl) (hg : Gl X "len" := by rfl) (hs : starEach [e] X.env = (false, eval e X.env) :: starEach [] X.env := by rfl) (hpl : (backTo pos (starEach [] X.env)).any (·.1) = false := by rfl) : PE X (.Call (.Name "len" p) [e] [] pos) (tM c B W (mCall sLen [o])) := pm_call semLen (by rw [hK]; exact pe_callB call_len_seq hg T.zlen boot_len (pa_consO h pa_nilO hs) (he := hs) (hpl := hpl))
theorem b_tuple {e : Expr} {o : Opn} {p pos : Pos} (T : Blt X.mg) (h : PE X e (tO c B W o)) (hK : c.K = X.K := by rfl) (hg : Gl X "tuple" := by rfl) (hs : starEach [e] X.env = (false, eval e X.env) :: starEach [] X.env := by rfl) (hpl : (backTo pos (starEach [] X.env)).any (·.1) = false := by rfl) : PE X (.Call (.Name "tuple" p) [e] [] pos) (tM c B W (mCall sTuple [o])) := pm_call semTuple (by rw [hK]; exact pe_callTy call_tupleN hg T.ztuple PyProof.Rows.boot_tuple (pa_consO h pa_nilO hs) (he := hs) (hpl := hpl))
theorem b_list {e : Expr} {o : Opn} {p pos : Pos} (T : Blt X.mg) (h : PE X e (tO c B W o)) (hK : c.K = X.K := by rfl) (hg : Gl X "list" := by rfl) (hs : starEach [e] X.env = (false, eval e X.env) :: starEach [] X.env := by rfl) (hpl : (backTo pos (starEach [] X.env)).any (·.1) = false := by rfl) : PE X (.Call (.Name "list" p) [e] [] pos) (tF c B W (mCall sList [o])) := pf_call semList (by rw [hK]; exact pe_callTy call_list_of hg T.zlist PyProof.Rows.boot_list (pa_consO h pa_nilO hs) (he := hs) (hpl := hpl))
theorem b_int {e : Expr} {o : Opn} {p pos : Pos} (T : Blt X.mg) (h : PE X e (tO c B W o)) (hg : Gl X "int" := by rfl) (hs : starEach [e] X.env = (false, eval e X.env) :: starEach [] X.env := by rfl) (hpl : (backTo pos (starEach [] X.env)).any (·.1) = false := by rfl) : PE X (.Call (.Name "int" p) [e] [] pos) (tM c B W (mCall sInt [o])) := pm_call semInt (pe_callTy call_int1 hg T.zint PyProof.Rows.boot_int (pa_consO h pa_nilO hs) (he := hs) (hpl := hpl))
theorem b_sum {e : Expr} {o : Opn} {p pos : Pos} (T : Blt X.mg) (hc : X.calm = true) (h : PE X e (tO c B W o)) (hK : c.K = X.K := by rfl) (hg : Gl X "sum" := by rfl) (hs : starEach [e] X.env = (false, eval e X.env) :: starEach [] X.env := by rfl) (hpl : (backTo pos (starEach [] X.env)).any (·.1) = false := by rfl) : PE X (.Call (.Name "sum" p) [e] [] pos) (tM c B W (mCall sSum [o])) := pm_call semSum (by rw [hK]; exact pe_callB (cr_sum hc) hg T.zsum PyProof.Rows.boot_sum (pa_consO h pa_nilO hs) (he := hs) (hpl := hpl))
theorem b_all {e : Expr} {o : Opn} {p pos : Pos} (T : Blt X.mg) (hc : X.calm = true) (h : PE X e (tO c B W o)) (hK : c.K = X.K := by rfl) (hg : Gl X "all" := by rfl) (hs : starEach [e] X.env = (false, eval e X.env) :: starEach [] X.env := by rfl) (hpl : (backTo pos (starEach [] X.env)).any (·.1) = false := by rfl) : PE X (.Call (.Name "all" p) [e] [] pos) (tM c B W (mCall sAll [o])) := pm_call semAll (by rw [hK]; exact pe_callB (cr_all hc) hg T.zall PyProof.Rows.boot_all (pa_consO h pa_nilO hs) (he := hs) (hpl := hpl))
theorem b_max {e : Expr} {es : List Expr} {os : List Opn} {p pos : Pos} (T : Blt X.mg) (hc : X.calm = true) (h : PA X (e :: es) (tA c B W os)) (hK : c.K = X.K := by rfl) (hg : Gl X "max" := by rfl) (hs : starEach (e :: es) X.env = (false, eval e X.env) :: starEach es X.env := by rfl) (hpl : (backTo pos (starEach es X.env)).any (·.1) = false := by rfl) : PE X (.Call (.Name "max" p) (e :: es) [] pos) (tM c B W (mCall sMax os)) := pm_call semMax (by rw [hK]; exact pe_callB (call_mx hc) hg T.zmax PyProof.Rows.boot_max h (he := hs) (hpl := hpl))
theorem b_min {e : Expr} {es : List Expr} {os : List Opn} {p pos : Pos} (T : Blt X.mg) (hc : X.calm = true) (h : PA X (e :: es) (tA c B W os)) (hK : c.K = X.K := by rfl) (hg : Gl X "min" := by rfl) (hs : starEach (e :: es) X.env = (false, eval e X.env) :: starEach es X.env := by rfl) (hpl : (backTo pos (starEach es X.env)).any (·.1) = false := by rfl) : PE X (.Call (.Name "min" p) (e :: es) [] pos) (tM c B W (mCall sMin os)) := pm_call semMin (by rw [hK]; exact pe_callB (call_mn hc) hg T.zmin PyProof.Rows.boot_min h (he := hs) (hpl := hpl))
theorem b_sorted {e : Expr} {o : Opn} {p pos : Pos} (T : Blt X.mg) (h : PE X e (tO c B W o)) (hK : c.K = X.K := by rfl) (hg : Gl X "sorted" := by rfl) (hs : starEach [e] X.env = (false, eval e X.env) :: starEach [] X.env := by rfl) (hpl : (backTo pos (starEach [] X.env)).any (·.1) = false := by rfl) : PE X (.Call (.Name "sorted" p) [e] [] pos) (tF c B W (mCall sSorted [o])) := pf_call semSorted (by rw [hK]; exact pe_callB fx_cr_sorted hg T.zsorted PyProof.Rows.boot_sorted (pa_consO h pa_nilO hs) (he := hs) (hpl := hpl))
theorem b_ty {x : Str} {n : String} {pos : Pos} (hm : X.mg x = none) (hv : bootBuiltins x = some (.type n)) (hg : Gl X x := by rfl) (hn : x ≠ "__name__" := by decide) (hdb : (x == ("__debug__" : Str)) = false := by decide) : PE X (.Name x pos) (tM c B W (M.pure (.raw (.ty n)))) :=
  pm_c (v := .ty n) ⟨fun pins s σ H Q I q => ld_blt I hg hm hv ⟨.ty n, H, I, rfl, q⟩ hn hdb⟩ fun _ => .raw _
theorem b_isi {e f : Expr} {o o2 : Opn} {p pos : Pos} (T : Blt X.mg) (h : PE X e (tO c B W o)) (h2 : PE X f (tO c B W o2)) (hK : c.K = X.K := by rfl) (hg : Gl X "isinstance" := by rfl) (hs : starEach [e, f] X.env = (false, eval e X.env) :: starEach [f] X.env := by rfl) (hs2 : starEach [f] X.env = (false, eval f X.env) :: starEach [] X.env := by rfl) (hpl : (backTo pos (starEach [f] X.env)).any (·.1) = false := by rfl) : PE X (.Call (.Name "isinstance" p) [e, f] [] pos) (tM c B W (mCall sIsi [o, o2])) := pm_call semIsi (by rw [hK]; exact pe_callB call_isi hg T.zisinstance PyProof.Rows.boot_isinstance (pa_consO h (pa_consO h2 pa_nilO hs2) hs) (he := hs) (hpl := hpl))
theorem b_lenset {a : Expr} {f : M D} {p p2 q pos : Pos} (T : Blt X.mg) (hc : X.calm = true) (ha : PE X a (tM c B W f)) (hK : c.K = X.K := by rfl) (hg : Gl X "len" := by rfl) (hg2 : Gl X "set" := by rfl) (na : starEach [a] X.env = (false, eval a X.env) :: starEach [] X.env := by rfl) : PE X (.Call (.Name "len" p) [.Call (.Name "set" p2) [a] [] q] [] pos) (tM c B W (mLenSet f)) := pm_lenSet hc T.zlen T.zset ha hK hg hg2 na
end
end Fx
set_option Elab.async false
set_option linter.all false
set_option maxRecDepth 100000
set_option maxHeartbeats 4000000
/-! Fx17: list(range(n)), xs[j] = e, methods by one name each. -/
namespace Fx
open PySem L2
section
variable {c : Cf} {B : List (Nat × Addr)} {W : WX} {X : Cx} {G H : Hp} {A : Addr → Prop} {σ : L2.St} {ρ : Cells} {Z : Ends}
theorem rep_range : ∀ l : List Nat, RepL c G (l.map fun i => V.int (0 + (i : Nat))) (l.map fun (k : Nat) => D.int (0 + (k : Int)))
  | [] => .nil
  | _ :: l => .cons (.int _) (rep_range l)
def mListRg (f : M D) : M D := f.bind fun d => match d with
  | .int n => if -(2 ^ 62) ≤ n ∧ n ≤ 16777216 then M.pure (.lst (rangeD 0 n.toNat)) else M.stuck
  | _ => M.stuck
theorem f_lrange {a : Expr} {f : M D} {p q pos pos2 : Pos} (T : Blt X.mg) (hc : X.calm = true) (ha : PE X a (tM c B W f)) (hg : Gl X "list" := by rfl) (hg2 : Gl X "range" := by rfl)
    (na : starEach [a] X.env = (false, eval a X.env) :: starEach [] X.env := by rfl) (na2 : starEach [.Call (.Name "range" q) [a] [] pos2] X.env = (false, eval (.Call (.Name "range" q) [a] [] pos2) X.env) :: starEach [] X.env := by rfl) :
    PE X (.Call (.Name "list" p) [.Call (.Name "range" q) [a] [] pos2] [] pos) (tF c B W (mListRg f)) :=
  pe_imp (pe_listRg hc hg T.zlist (prg_1 hg2 T.zrange ha na) na2) fun σ H Q ⟨G, A, ρ, R, h⟩ => by
    refine ⟨G, A, ρ, R, h.split.imp fun d ρ1 G1 H1 _ _ R1 q v r => ?_⟩
    cases d <;> first | exact q.elim | skip
    rename_i n
    obtain rfl := rep_int r
    have q : After c B W G1 A H1 σ ((if -(2 ^ 62) ≤ n ∧ n ≤ 16777216 then M.pure (D.lst (rangeD 0 n.toNat)) else M.stuck) ρ1) _ := q
    split at q
    · rename_i hn
      refine ⟨n, rfl, ⟨by omega, by omega, by omega, by omega, by omega⟩, fun p0 hp => ?_⟩
      have q := After.ok q R1
      refine q p0 _ hp (fun b o e => by rw [upd_ne (ne_of_none e hp)]; exact e) ⟨rgV 0 n, upd_same, ?_⟩
      unfold rgV rangeD
      rw [Int.sub_zero]
      exact rep_range _
    · exact q.elim
/-! ### xs[j] = e -/
def mSetIx (i : Nat) (fj fe : M D) : MS := mDo fe fun d => mDo (ownAt i) fun _ => mDo fj fun j => mDo (ownAt i) fun o ρ => match o, j with
  | .lst ds, .int k => match ixN ds.length k with
    | some n => .next (ρ.set i (.own (.lst (ds.set n d))))
    | none => .stuck
  | _, _ => .stuck
theorem AfterS.ownAt {i : Nat} {k : D → MS} (h : AfterS c B W G A H (mDo (ownAt i) k ρ) Z) : ∃ d, ρ[i]? = some (.own d) ∧ AfterS c B W G A H (k d ρ) Z := by
  unfold mDo Fx.ownAt at h
  cases e1 : ρ[i]? with
  | none => simp only [e1] at h; exact h.elim
  | some cl =>
    simp only [e1] at h
    cases cl with
    | no => exact h.elim
    | dat d => exact h.elim
    | own o => exact ⟨o, rfl, h⟩
theorem ps_setIx (i : Nat) {x : Str} {ie e : Expr} {fj fe : M D} {np p pos : Pos} (he : PE X e (tM c B W fe)) (hj : PE X ie (tM c B W fj)) (hN : X.N[i]? = some x := by rfl) (hv : Vis X.env.scope x := by first | exact Or.inl rfl | exact Or.inr (Or.inl rfl) | exact Or.inr (Or.inr rfl)) (hd : (x == ("__debug__" : Str)) = false := by decide)
    (hcd : (x == ("__classdict__" : Str)) = false := by decide) (hs : swapsWithSole [.Subscript (.Name x np) ie p] e pos.line X.env = pure false := by rfl) (hw : swappedStores [.Subscript (.Name x np) ie p] e X.env = pure none := by rfl)
    (h1 : (assignEach [.Subscript (.Name x np) ie p] X.env).map (·.2) = [assign (.Subscript (.Name x np) ie p) X.env] := by rfl)
    (ha : ∀ v, assign (.Subscript (.Name x np) ie p) X.env v = (do
      let ov ← holding [v] (eval (.Name x np) X.env)
      let iv ← holding [v, ov] (eval ie X.env)
      standAt p
      holding [v, ov, iv] (setItem ov iv v)
      release [v, ov, iv] []) := by intro _; rfl) :
    PS X (.Assign [.Subscript (.Name x np) ie p] e pos) (tS c B W (mSetIx i fj fe)) :=
  ps_imp (ps_asg he (pg_sub (pe_var hN hv hd hcd) hj set_list ha) hs hw h1) fun Z σ H ⟨G, A, ρ, R, a⟩ => by
    refine ⟨G, A, ρ, R, (a.split R).imp fun d ρ1 G1 H1 _ _ R1 a1 v r => ?_⟩
    obtain ⟨o1, e1, a1⟩ := a1.ownAt
    obtain ⟨p, es, hA, hO⟩ := R1.own i o1 e1
    refine ⟨_, es, G1, A, ρ1, R1, (a1.split R1).imp fun jd ρ2 G2 H2 s2 _ R2 a2 w rw' => ?_⟩
    obtain ⟨o2, e2, a2⟩ := a2.ownAt
    obtain ⟨p', es', hA', hO'⟩ := R2.own i o2 e2
    rw [es] at es'; cases es'
    cases o2 <;> first | exact a2.elim | skip
    rename_i ds
    cases jd <;> first | exact a2.elim | skip
    rename_i kk _
    obtain rfl := rep_int rw'
    obtain ⟨xs, h2, h3⟩ := hO'
    have a2 : AfterS c B W G2 A H2 (match ixN ds.length kk with
      | some n => .next (ρ2.set i (.own (.lst (ds.set n d))))
      | none => .stuck) Z := a2
    cases ej : ixN ds.length kk with
    | none => rw [ej] at a2; exact a2.elim
    | some n =>
      rw [ej] at a2
      refine ⟨p, xs, kk, n, rfl, rfl, h2, by rw [h3.length]; exact ej, ?_⟩
      obtain ⟨R3, k3, s3⟩ := R2.setOwn (d' := .lst (ds.set n d)) (o := .lst (xs.set n v)) e2 es ⟨_, rfl, h3.set (r.mono s2) n⟩
      exact AfterS.nx (AfterS.of R2.own_there (Stp.same (Same.refl _) k3) a2) R3
/-! ### methods -/
theorem m_append (i : Nat) {x : Str} {e : Expr} {fe : M D} {np apos cpos : Pos} (he : PE X e (tM c B W fe)) (hN : X.N[i]? = some x := by rfl) (hv : Vis X.env.scope x := by first | exact Or.inl rfl | exact Or.inr (Or.inl rfl) | exact Or.inr (Or.inr rfl)) (hd : (x == ("__debug__" : Str)) = false := by decide)
    (hcd : (x == ("__classdict__" : Str)) = false := by decide) (hbase : attributeBase (.Name x np) "append" X.env (eval (.Name x np) X.env) = eval (.Name x np) X.env := by rfl)
    (hfew : ((backTo cpos (starEach [e] X.env)).all (fun x => !x.1) && (backToKw cpos (keywordEach [] X.env)).all (fun x => x.1.isSome) && decide ([e].length + ([] : List Keyword).length + (if ([] : List Keyword).isEmpty then 0 else 1) < 30)) = true := by rfl)
    (hline : (apos.endLine == cpos.line) = true := by rfl) (hs : starEach [e] X.env = (false, eval e X.env) :: starEach [] X.env := by rfl) (hplain : (backTo cpos (starEach [] X.env)).any (·.1) = false := by rfl) :
    PE X (.Call (.Attribute (.Name x np) "append" apos) [e] [] cpos) (tM c B W (mMethWR wAppend i [fe])) := pm_methWR i semAppend (pe_bm PySem.F.plainAttrs_list PySem.F.slot_list_append PySem.F.type_list_append mt_append (pe_slot i hN hv hd hcd) (pd_cons he pd_nil hs) hbase hfew hline hs hplain)
theorem m_popAt (i : Nat) {x : Str} {e : Expr} {fe : M D} {np apos cpos : Pos} (he : PE X e (tM c B W fe)) (hN : X.N[i]? = some x := by rfl) (hv : Vis X.env.scope x := by first | exact Or.inl rfl | exact Or.inr (Or.inl rfl) | exact Or.inr (Or.inr rfl)) (hd : (x == ("__debug__" : Str)) = false := by decide)
    (hcd : (x == ("__classdict__" : Str)) = false := by decide) (hbase : attributeBase (.Name x np) "pop" X.env (eval (.Name x np) X.env) = eval (.Name x np) X.env := by rfl)
    (hfew : ((backTo cpos (starEach [e] X.env)).all (fun x => !x.1) && (backToKw cpos (keywordEach [] X.env)).all (fun x => x.1.isSome) && decide ([e].length + ([] : List Keyword).length + (if ([] : List Keyword).isEmpty then 0 else 1) < 30)) = true := by rfl)
    (hline : (apos.endLine == cpos.line) = true := by rfl) (hs : starEach [e] X.env = (false, eval e X.env) :: starEach [] X.env := by rfl) (hplain : (backTo cpos (starEach [] X.env)).any (·.1) = false := by rfl) :
    PE X (.Call (.Attribute (.Name x np) "pop" apos) [e] [] cpos) (tM c B W (mMethWR wPopAt i [fe])) := pm_methWR i semPopAt (pe_bm PySem.F.plainAttrs_list PySem.F.slot_list_pop PySem.F.type_list_pop mt_popAt (pe_slot i hN hv hd hcd) (pd_cons he pd_nil hs) hbase hfew hline hs hplain)
theorem m_extend (i : Nat) {x : Str} {e : Expr} {o : Opn} {np apos cpos : Pos} (he : PE X e (tO c B W o)) (hN : X.N[i]? = some x := by rfl) (hv : Vis X.env.scope x := by first | exact Or.inl rfl | exact Or.inr (Or.inl rfl) | exact Or.inr (Or.inr rfl)) (hd : (x == ("__debug__" : Str)) = false := by decide)
    (hcd : (x == ("__classdict__" : Str)) = false := by decide) (hK : c.K = X.K := by rfl) (hbase : attributeBase (.Name x np) "extend" X.env (eval (.Name x np) X.env) = eval (.Name x np) X.env := by rfl)
    (hfew : ((backTo cpos (starEach [e] X.env)).all (fun x => !x.1) && (backToKw cpos (keywordEach [] X.env)).all (fun x => x.1.isSome) && decide ([e].length + ([] : List Keyword).length + (if ([] : List Keyword).isEmpty then 0 else 1) < 30)) = true := by rfl)
    (hline : (apos.endLine == cpos.line) = true := by rfl) (hs : starEach [e] X.env = (false, eval e X.env) :: starEach [] X.env := by rfl) (hplain : (backTo cpos (starEach [] X.env)).any (·.1) = false := by rfl) :
    PE X (.Call (.Attribute (.Name x np) "extend" apos) [e] [] cpos) (tM c B W (mMethW wExtend i [o])) := pm_methW i semExtend (by rw [hK]; exact pe_bm PySem.F.plainAttrs_list PySem.F.slot_list_extend PySem.F.type_list_extend mt_extR (pe_slot i hN hv hd hcd) (pa_consO he pa_nilO hs) hbase hfew hline hs hplain)
theorem m_lindex {a e : Expr} {o o2 : Opn} {apos cpos : Pos} (ha : PE X a (tO c B W o)) (he : PE X e (tO c B W o2)) (hK : c.K = X.K := by rfl) (hbase : attributeBase a "index" X.env (eval a X.env) = eval a X.env := by rfl)
    (hfew : ((backTo cpos (starEach [e] X.env)).all (fun x => !x.1) && (backToKw cpos (keywordEach [] X.env)).all (fun x => x.1.isSome) && decide ([e].length + ([] : List Keyword).length + (if ([] : List Keyword).isEmpty then 0 else 1) < 30)) = true := by rfl)
    (hline : (apos.endLine == cpos.line) = true := by rfl) (hs : starEach [e] X.env = (false, eval e X.env) :: starEach [] X.env := by rfl) (hplain : (backTo cpos (starEach [] X.env)).any (·.1) = false := by rfl) :
    PE X (.Call (.Attribute a "index" apos) [e] [] cpos) (tM c B W (mMeth isLst sLix o [o2])) := pm_methL hK semLix (by rw [hK]; exact pe_bm PySem.F.plainAttrs_list PySem.F.slot_list_index PySem.F.type_list_index mt_index ha (pa_consO he pa_nilO hs) hbase hfew hline hs hplain)
theorem m_tindex {a e : Expr} {o o2 : Opn} {apos cpos : Pos} (ha : PE X a (tO c B W o)) (he : PE X e (tO c B W o2)) (hK : c.K = X.K := by rfl) (hbase : attributeBase a "index" X.env (eval a X.env) = eval a X.env := by rfl)
    (hfew : ((backTo cpos (starEach [e] X.env)).all (fun x => !x.1) && (backToKw cpos (keywordEach [] X.env)).all (fun x => x.1.isSome) && decide ([e].length + ([] : List Keyword).length + (if ([] : List Keyword).isEmpty then 0 else 1) < 30)) = true := by rfl)
    (hline : (apos.endLine == cpos.line) = true := by rfl) (hs : starEach [e] X.env = (false, eval e X.env) :: starEach [] X.env := by rfl) (hplain : (backTo cpos (starEach [] X.env)).any (·.1) = false := by rfl) :
    PE X (.Call (.Attribute a "index" apos) [e] [] cpos) (tM c B W (mMeth isTup sTix o [o2])) := pm_methT hK semTix (by rw [hK]; exact pe_bmT PySem.F.slot_tuple_index PySem.F.type_tuple_index mt_tix ha (pa_consO he pa_nilO hs) hbase hfew hline hs hplain)
end
end Fx
set_option Elab.async false
set_option linter.all false
set_option maxRecDepth 100000
set_option maxHeartbeats 4000000
/-! Fx18: the class of farms and the errors by one name each; blocks by a check. -/
namespace Fx
open PySem L2
section
variable {P : Program} {w : World} {K : PySem.W.Frag} {mg : Str → Option Value} {base : Heap} {c : Cf}
/-- Farm(..) -/
structure CalM (P : Program) (w : World) (K : PySem.W.Frag) (mg : Str → Option Value) (base : Heap) (c : Cf) (k : Nat) (nm : Str) (n : Nat) (F : Fn) : Prop where
  ex : ∃ fI fd ps, Mk K c.farm fI ∧ FnOk P w K mg base (L2.CX P w) k fI fd ps (spM c [0] n F) ∧ mg nm = some (.ref c.farm) ∧ Binds K fd ps []
theorem CalM.mono {k j : Nat} {nm : Str} {n : Nat} {F : Fn} (h : CalM P w K mg base c k nm n F) (hk : k ≤ j) : CalM P w K mg base c j nm n F := by
  obtain ⟨f, fd, ps, h1, h2, h3⟩ := h.ex
  exact ⟨f, fd, ps, h1, h2.mono hk, h3⟩
/-- farm.m(..) -/
structure CalF (P : Program) (w : World) (K : PySem.W.Frag) (mg : Str → Option Value) (base : Heap) (c : Cf) (k : Nat) (m : Str) (n : Nat) (F : Fn) : Prop where
  ex : ∃ f fd ps, Meth K c.farm m f ∧ FnOk P w K mg base (L2.CX P w) k f fd ps (spM c [] n F) ∧ Binds K fd ps []
/-- len(farm) -/
structure CalL (P : Program) (w : World) (K : PySem.W.Frag) (mg : Str → Option Value) (base : Heap) (c : Cf) (k : Nat) (F : Fn) : Prop where
  ex : ∃ f fd ps, PySem.W.findIn K (.ref c.farm) "__len__" = some (some (.ref f)) ∧ PySem.W.isFn K (.ref f) = true ∧ FnOk P w K mg base (L2.CX P w) k f fd ps (spM c [] 1 F) ∧ Binds K fd ps []
/-- an error with one field -/
structure CalX1 (P : Program) (w : World) (K : PySem.W.Frag) (mg : Str → Option Value) (base : Heap) (c : Cf) (k : Nat) (x : Nat) (nm f : Str) : Prop where
  ex : ∃ fI fd ps, XcK c K mg x nm fI ∧ FnOk P w K mg base (L2.CX P w) k fI fd ps (spI1 (c.exc x) f) ∧ Binds K fd ps []
  fl : c.flds x = [f]
structure CalX2 (P : Program) (w : World) (K : PySem.W.Frag) (mg : Str → Option Value) (base : Heap) (c : Cf) (k : Nat) (x : Nat) (nm f g : Str) : Prop where
  ex : ∃ fI fd ps, XcK c K mg x nm fI ∧ FnOk P w K mg base (L2.CX P w) k fI fd ps (spI2 (c.exc x) f g) ∧ Binds K fd ps []
  fl : c.flds x = [g, f]
end
section
variable {c : Cf} {B : List (Nat × Addr)} {W : WX} {X : Cx} {E : XK}
theorem pm_calM {F : Fn} {fs : List (M D)} {k j n : Nat} {x : Str} {p pos : Pos} {e : Expr} {es : List Expr} (C : CalM X.prog X.w X.K X.mg X.base c j x n F) (hr : Room k X.A) (tk : Takes X (fun cls d _ H => E cls d H)) (ha : PA X (e :: es) (tD c B (fun cls d _ H => E cls d H) fs)) (hj : j + 1 ≤ k := by decide)
    (hn : fs.length + 1 = n := by rfl) (hg : Gl X x := by rfl) (hdb : (x == ("__debug__" : Str)) = false := by decide)
    (he : starEach (e :: es) X.env = (false, eval e X.env) :: starEach es X.env := by rfl) (hpl : (backTo pos (starEach es X.env)).any (·.1) = false := by rfl) :
    PE X (.Call (.Name x p) (e :: es) [] pos) (tM c B (fun cls d _ H => E cls d H) (mMake F fs)) := by
  obtain ⟨f, fd, ps, h1, h2, h3, h4⟩ := C.ex
  exact pm_make h1 h2 (hr.mono hj) (passE tk) h3 h4 ha hn hg hdb he hpl
theorem pm_calF {F : Fn} {fs : List (M D)} {fo : M D} {k j n : Nat} {m : Str} {apos pos : Pos} {o e : Expr} {es : List Expr} {pl : Sem Bool} (T : Cls X.K c.farm) (C : CalF X.prog X.w X.K X.mg X.base c j m n F) (hr : Room k X.A) (tk : Takes X (fun cls d _ H => E cls d H)) (he : PE X o (tM c B (fun cls d _ H => E cls d H) fo))
    (ha : PA X (e :: es) (tD c B (fun cls d _ H => E cls d H) fs)) (hj : j ≤ k := by decide) (hn : fs.length + 1 = n := by rfl)
    (hst : starEach (e :: es) X.env = (false, eval e X.env) :: starEach es X.env := by rfl) (hpl : (backTo pos (starEach es X.env)).any (·.1) = false := by rfl)
    (ht : eval (.Call (.Attribute o m apos) (e :: es) [] pos) X.env = (do
      let ov ← eval o X.env
      standAt apos.atName
      let (f, first) ← holding [ov] (getMethod ov m pl)
      callWith pos f first (backTo pos (starEach (e :: es) X.env)) (backToKw pos (keywordEach [] X.env))) := by rfl) :
    PE X (.Call (.Attribute o m apos) (e :: es) [] pos) (tM c B (fun cls d _ H => E cls d H) (mMethF F m fo fs)) := by
  obtain ⟨f, fd, ps, h1, h2, h3⟩ := C.ex
  exact pm_methF he T h1 h2 (hr.mono hj) (passE tk) h3 ha hn hst hpl ht
theorem pm_calF0 {F : Fn} {fo : M D} {k j : Nat} {m : Str} {apos pos : Pos} {o : Expr} {pl : Sem Bool} (T : Cls X.K c.farm) (C : CalF X.prog X.w X.K X.mg X.base c j m 1 F) (hr : Room k X.A) (tk : Takes X (fun cls d _ H => E cls d H)) (he : PE X o (tM c B (fun cls d _ H => E cls d H) fo)) (hj : j ≤ k := by decide)
    (ht : eval (.Call (.Attribute o m apos) [] [] pos) X.env = (do
      let ov ← eval o X.env
      standAt apos.atName
      let (f, first) ← holding [ov] (getMethod ov m pl)
      callWith pos f first (backTo pos (starEach [] X.env)) (backToKw pos (keywordEach [] X.env))) := by rfl) :
    PE X (.Call (.Attribute o m apos) [] [] pos) (tM c B (fun cls d _ H => E cls d H) (mMethF F m fo [])) := by
  obtain ⟨f, fd, ps, h1, h2, h3⟩ := C.ex
  exact pm_methF0 he T h1 h2 (hr.mono hj) (passE tk) h3 ht
theorem pm_calL {F : Fn} {fe : M D} {k j : Nat} {p pos : Pos} {e : Expr} (T : Blt X.mg) (C : CalL X.prog X.w X.K X.mg X.base c j F) (hr : Room k X.A) (tk : Takes X W) (he : PE X e (tM c B W fe)) (hj : j + 1 ≤ k := by decide) (hg : Gl X "len" := by rfl)
    (hst : starEach [e] X.env = (false, eval e X.env) :: starEach [] X.env := by rfl) (hpl : (backTo pos (starEach [] X.env)).any (·.1) = false := by rfl) :
    PE X (.Call (.Name "len" p) [e] [] pos) (tM c B W (mLenF F fe)) := by
  obtain ⟨f, fd, ps, h1, h2, h3, h4⟩ := C.ex
  exact pm_lenF (E := fun _ _ _ => False) h1 h2 h3 (hr.mono hj) tk h4 T.zlen he hg hst hpl
theorem ps_x1 {x : Nat} {nm f : Str} {k j : Nat} {e : Expr} {fe : M D} {p pos pos2 : Pos} (C : CalX1 X.prog X.w X.K X.mg X.base c j x nm f) (hc : X.calm = true) (tk : Takes X W) (hr : Room k X.A) (ha : PE X e (tM c B W fe)) (hj : j + 1 ≤ k := by decide) (hg : Gl X nm := by rfl)
    (hdb : (nm == ("__debug__" : Str)) = false := by decide) (he : starEach (e :: []) X.env = (false, eval e X.env) :: starEach [] X.env := by rfl) (hpl : (backTo pos (starEach [] X.env)).any (·.1) = false := by rfl) :
    PS X (.Raise (some (.Call (.Name nm p) [e] [] pos)) none pos2) (tS c B W (mRaise x [fe])) := by
  obtain ⟨f, fd, ps, h1, h2, h3⟩ := C.ex
  exact ps_raise1 hc tk h1 C.fl h2 (hr.mono hj) h3 ha hg hdb he hpl
theorem ps_x2 {x : Nat} {nm f g : Str} {k j : Nat} {e e2 : Expr} {fe fe2 : M D} {p pos pos2 : Pos} (C : CalX2 X.prog X.w X.K X.mg X.base c j x nm f g) (hc : X.calm = true) (tk : Takes X W) (hr : Room k X.A) (ha : PE X e (tM c B W fe)) (ha2 : PE X e2 (tM c B W fe2)) (hj : j + 1 ≤ k := by decide) (hg : Gl X nm := by rfl)
    (hdb : (nm == ("__debug__" : Str)) = false := by decide) (he : starEach (e :: [e2]) X.env = (false, eval e X.env) :: starEach [e2] X.env := by rfl) (he2 : starEach [e2] X.env = (false, eval e2 X.env) :: starEach [] X.env := by rfl) (hpl : (backTo pos (starEach [e2] X.env)).any (·.1) = false := by rfl) :
    PS X (.Raise (some (.Call (.Name nm p) [e, e2] [] pos)) none pos2) (tS c B W (mRaise x [fe, fe2])) := by
  obtain ⟨f, fd, ps, h1, h2, h3⟩ := C.ex
  exact ps_raise2 hc tk h1 C.fl h2 (hr.mono hj) h3 ha ha2 hg hdb he he2 hpl
end
/-! ### blocks -/
def kFree : NameKind → Bool
  | .free => true
  | _ => false
def kCell : NameKind → Bool
  | .cell => true
  | _ => false
def kLoc : NameKind → Bool
  | .local => true
  | _ => false
def kEq : NameKind → NameKind → Bool
  | .local, .local => true
  | .cell, .cell => true
  | .free, .free => true
  | .globalImplicit, .globalImplicit => true
  | .globalExplicit, .globalExplicit => true
  | _, _ => false
def kFun : ScopeKind → Bool
  | .function => true
  | _ => false
def blkB (N : List Str) (sc scope : Scope) (own : List (Str × Nat)) : Bool :=
  kFun scope.kind && scope.names.all (fun y => match scope.names.lookup y.1 with | some k => kEq k y.2 | none => false) && own.all (fun p => match N[p.2]? with | some x => decide (x = p.1) | none => false) &&
    scope.names.all (fun y => !kFree y.2 || (match sc.names.lookup y.1 with | some k => kCell k || kFree k | none => false)) && scope.names.all (fun y => !(kLoc y.2 || kCell y.2) || (own.any (fun p => decide (p.1 = y.1)) || N.all (fun x => !decide (x = y.1))))
theorem kEq_eq {a b : NameKind} (h : kEq a b = true) : a = b := by cases a <;> cases b <;> first | rfl | cases h
theorem blk_of {N : List Str} {sc scope : Scope} {own : List (Str × Nat)} (h : blkB N sc scope own = true) : BlkOk N sc scope own := by
  unfold blkB at h
  simp only [Bool.and_eq_true, List.all_eq_true] at h
  obtain ⟨⟨⟨⟨h1, h2⟩, h3⟩, h4⟩, h5⟩ := h
  refine ⟨?_, fun y hy => ?_, fun p hp => ?_, fun y hy e => ?_, fun y hy e => ?_⟩
  · cases hk : scope.kind <;> rw [hk] at h1 <;> first | rfl | cases h1
  · have q := h2 y hy
    cases e : scope.names.lookup y.1 with
    | none => rw [e] at q; cases q
    | some k => rw [e] at q; rw [kEq_eq q]
  · have q := h3 p hp
    cases e : N[p.2]? with
    | none => rw [e] at q; cases q
    | some k => rw [e] at q; rw [of_decide_eq_true q]
  · have q := h4 y hy
    rw [e] at q
    simp only [kFree, Bool.not_true, Bool.false_or] at q
    cases e2 : sc.names.lookup y.1 with
    | none => rw [e2] at q; cases q
    | some k => rw [e2] at q; cases k <;> first | exact .inl rfl | exact .inr rfl | cases q
  · have q := h5 y hy
    have hk : (kLoc y.2 || kCell y.2) = true := by rcases e with e | e <;> rw [e] <;> rfl
    rw [hk] at q
    simp only [Bool.not_true, Bool.false_or, Bool.or_eq_true] at q
    rcases q with q | q
    · obtain ⟨p, hp, e3⟩ := List.any_eq_true.mp q
      exact .inl (List.mem_map.mpr ⟨p, hp, of_decide_eq_true e3⟩)
    · refine .inr fun hm => ?_
      have := List.all_eq_true.mp q y.1 hm
      simp at this
end Fx
set_option Elab.async false
set_option linter.all false
set_option maxRecDepth 100000
set_option maxHeartbeats 4000000
/-! Fx19: the law's end. -/
namespace Fx
open PySem L2
/-- the law's def: a list of at most 63 ints is handed in, True comes out -/
def spLaw (K : PySem.W.Frag) : Sp := fun vs H Q _ => ∃ (a : Addr) (ns : List Int), vs = [.ref a] ∧ LsG K H a (ns.map V.int) ∧ ns.length ≤ 63 ∧ ∀ H', Q (.bl true) H'
theorem law_imp {c : Cf} {F : Fn} (plain : ∀ ns : List Int, ns.length ≤ 63 → ∃ outs, F [.lst (ns.map .int)] = .ret (.bl true) outs) (vs : List V) (H : Hp) (Q : VK) (E : XK) (h : spLaw c.K vs H Q E) : spM c [] 1 F vs H Q E := by
  obtain ⟨a, ns, rfl, hL, hl, q⟩ := h
  obtain ⟨outs, e⟩ := plain ns hl
  refine ⟨H, fun _ => False, [.lst (ns.map .int)], rfl, argsOk_rep (Same.refl H) (.one (.lst hL (repInts ns))), ?_⟩
  rw [e]
  intro G' H' v _ rv
  obtain rfl := rep_bl rv
  exact q H'
theorem walk_fx {l : PySem.W.OpenLaw} {k : Nat} {q : Program} {loose : List Str} {XP : (Str → Option Value) → Heap → Prop} {YP : World → Heap → Prop} {d : DefRec} {K : Params → PySem.W.Frag} {x : Str}
    (hn : l.most = some 63) (hdf : d.params.defaults = []) (hr : Room k callerA) (hY : ∀ (w : World) (h : Heap), YP w h → (K w.params).In h)
    (F : ∀ (w : World) (mg : Str → Option Value) (fa : Addr) (h : Heap), (K w.params).In h → h.Ns mainGlobals mg → mg d.name = some (.ref fa) →
      ∃ fd : FuncData, (∀ (s : Shared) (u : Value), BindsTo s fd ⟨[u], []⟩ [(x, u)]) ∧ ∀ base : Heap, (K w.params).In base → base.Ns mainGlobals mg → FnOk l.prog w (K w.params) mg base (L2.CX l.prog w) k fa fd [x] (spLaw (K w.params))) :
    PySem.W.WalkO q loose XP YP l.row.toRowW d [] (fun f vs => PySem.call f vs) := by
  refine Att.attach_call hn hdf fun w s₀ s₁ mg mb fa o pm cd doc a vs ns G Y ho hd hcd hmg hobj hints hlen hg => ?_
  have KX := hY w _ Y
  obtain ⟨fd, hb, hF⟩ := F w mg fa _ KX G.T.g hmg
  have hlen2 : ns.length ≤ sizeLine := Nat.le_trans hlen (by decide)
  refine law_call KX G.T.g G.T.b G.T.builtins G.T.nolimit hg hobj hints hlen2 hr hF hb (fun H _ hS => ?_) fun H e s' z => ?_
  · refine ⟨a, ns, rfl, ?_, hlen, fun _ => rfl⟩
    rcases hS with hS | ⟨o', its, m, h1, _⟩
    · exact .inl hS
    · have e := KX _ _ h1
      rw [hobj] at e
      cases e
      have rv := vals_ints hints
      refine .inr ⟨vs, _, h1, ?_, rv⟩
      rw [← rv.length, List.length_map]
      exact hlen2
  · obtain ⟨_, _, _, _, _, _, _, _, _, _, _, _, z⟩ := z
    exact z.elim
theorem mro_ok {CB : Addr} : PySem.HandSPX.refsVE [.ref CB, .type "ValueError", .type "Exception", .type "BaseException", .type "object"] = true := by rfl
end Fx
set_option Elab.async false
set_option linter.all false
set_option maxRecDepth 100000
set_option maxHeartbeats 1000000
/-! Fx20: plain laws of the mirrors' loops and comprehensions (no program in sight). -/
namespace Fx
open PySem L2
/-! ### comprehensions -/
theorem lcM_pure {g : TgM} {tt : M Bool} {fe : M D} {vs : List Nat} {w : Cells} (P : D → Bool) (f : D → D) : ∀ (ds : List D) (ρ : Cells), wipeC ρ vs = w →
    (∀ d ∈ ds, ∃ ρ1, g d w = some ρ1 ∧ tt ρ1 = .ok (P d) ρ1 ∧ (P d = true → fe ρ1 = .ok (f d) ρ1) ∧ wipeC ρ1 vs = w) →
    ∃ ρ', lcM g tt fe vs ds ρ = some ((ds.filter P).map f, ρ') ∧ wipeC ρ' vs = w
  | [], ρ, hw, _ => ⟨ρ, rfl, hw⟩
  | d :: ds, ρ, hw, h => by
    obtain ⟨ρ1, h1, h2, h3, h4⟩ := h d List.mem_cons_self
    obtain ⟨ρ', e, hw'⟩ := lcM_pure P f ds ρ1 h4 fun x hx => h x (List.mem_cons_of_mem _ hx)
    refine ⟨ρ', ?_, hw'⟩
    unfold lcM
    rw [hw]
    simp only [h1, h2]
    cases hP : P d with
    | true => simp [hP, h3 hP, e]
    | false => simp [hP, e]
theorem wipeC_get {ρ : Cells} {vs : List Nat} {i : Nat} (h : i ∉ vs) : (wipeC ρ vs)[i]? = ρ[i]? := wipeC_out h
/-- the cells behind a comprehension are the cells ahead of it -/
theorem unwipe_same {ρ ρ' : Cells} {vs : List Nat} (hw : wipeC ρ' vs = wipeC ρ vs) : unwipe ρ ρ' vs = ρ := by
  have hl : ρ'.length = ρ.length := by
    have := congrArg List.length hw
    rwa [wipeC_len, wipeC_len] at this
  apply List.ext_getElem?
  intro i
  by_cases hi : i ∈ vs
  · by_cases hlt : i < ρ.length
    · rw [unwipe_in (by rw [hl]; exact hlt) hi, List.getElem?_eq_getElem hlt]
      rfl
    · rw [List.getElem?_eq_none (by rw [unwipe_len]; omega), List.getElem?_eq_none (by omega)]
  · rw [unwipe_out hi, ← wipeC_get (ρ := ρ') hi, hw, wipeC_get hi]
theorem mLc_pure {fi : M (List D)} {g : TgM} {tt : M Bool} {fe : M D} {vs : List Nat} {ρ : Cells} {ds : List D} (P : D → Bool) (f : D → D) (hi : fi ρ = .ok ds ρ) (ho : vs.all (fun v => !isOwn ρ[v]?) = true)
    (h : ∀ d ∈ ds, ∃ ρ1, g d (wipeC ρ vs) = some ρ1 ∧ tt ρ1 = .ok (P d) ρ1 ∧ (P d = true → fe ρ1 = .ok (f d) ρ1) ∧ wipeC ρ1 vs = wipeC ρ vs) :
    mLc fi g tt fe vs ρ = .ok (.lst ((ds.filter P).map f)) ρ := by
  obtain ⟨ρ', e, hw⟩ := lcM_pure P f ds ρ rfl h
  unfold mLc M.bind
  rw [hi]
  show (if vs.all (fun v => !isOwn ρ[v]?) = true then _ else _) = _
  rw [if_pos ho, e]
  show Out.ok _ (unwipe ρ ρ' vs) = _
  rw [unwipe_same hw]
/-! ### loops -/
theorem loop_inv {g : TgM} {body : MS} (I : Nat → Cells → Prop) : ∀ (ds : List D) (n : Nat) (ρ : Cells), I n ρ →
    (∀ (i : Nat) (d : D) (ρ : Cells), ds[i]? = some d → I (n + i) ρ → ∃ ρ1, g d ρ = some ρ1 ∧ ∃ ρ2, body ρ1 = .next ρ2 ∧ I (n + i + 1) ρ2) →
    ∃ ρ', loopM g body ds ρ = .next ρ' ∧ I (n + ds.length) ρ'
  | [], n, ρ, hI, _ => ⟨ρ, rfl, hI⟩
  | d :: ds, n, ρ, hI, h => by
    obtain ⟨ρ1, h1, ρ2, h2, h3⟩ := h 0 d ρ rfl hI
    obtain ⟨ρ', e, h4⟩ := loop_inv I ds (n + 1) ρ2 h3 fun i x ρ hx hi => by
      have := h (i + 1) x ρ (by simpa using hx) (by rw [show n + (i + 1) = n + 1 + i by omega]; exact hi)
      rwa [show n + (i + 1) + 1 = n + 1 + i + 1 by omega] at this
    refine ⟨ρ', ?_, by rw [List.length_cons, show n + (ds.length + 1) = n + 1 + ds.length by omega]; exact h4⟩
    unfold loopM
    simp only [h1, h2, e]
/-- a loop that returns at the first item with P -/
theorem loop_find {g : TgM} {body : MS} (I : Cells → Prop) (P : D → Bool) (f : D → D) : ∀ (ds : List D) (ρ : Cells), I ρ →
    (∀ (d : D) (ρ : Cells), d ∈ ds → I ρ → ∃ ρ1, g d ρ = some ρ1 ∧ ∃ ρ2, I ρ2 ∧ body ρ1 = if P d = true then .ret (f d) ρ2 else .next ρ2) →
    ∃ ρ', I ρ' ∧ loopM g body ds ρ = match ds.find? P with
      | some d => .ret (f d) ρ'
      | none => .next ρ'
  | [], ρ, hI, _ => ⟨ρ, hI, rfl⟩
  | d :: ds, ρ, hI, h => by
    obtain ⟨ρ1, h1, ρ2, h2, h3⟩ := h d ρ List.mem_cons_self hI
    cases hP : P d with
    | true =>
      refine ⟨ρ2, h2, ?_⟩
      unfold loopM
      simp [h1, h3, hP]
    | false =>
      obtain ⟨ρ', h4, e⟩ := loop_find I P f ds ρ2 h2 fun x ρ hx => h x ρ (List.mem_cons_of_mem _ hx)
      refine ⟨ρ', h4, ?_⟩
      unfold loopM
      simp [h1, h3, hP, e]
/-- while: a measure that falls -/
theorem while_inv {t : M Bool} {body : MS} (I : Nat → Cells → Prop) (E : Cells → Prop) (h : ∀ (m : Nat) (ρ : Cells), I m ρ → ∃ b ρ1, t ρ = .ok b ρ1 ∧ (b = false → E ρ1) ∧ (b = true → ∃ ρ2 m', body ρ1 = .next ρ2 ∧ m' < m ∧ I m' ρ2)) :
    ∀ (n m : Nat) (ρ : Cells), m < n → I m ρ → ∃ ρ', whileM t body n ρ = .next ρ' ∧ E ρ'
  | 0, _, _, hn, _ => by omega
  | n + 1, m, ρ, hn, hI => by
    obtain ⟨b, ρ1, h1, h2, h3⟩ := h m ρ hI
    unfold whileM
    simp only [h1]
    cases b with
    | false => exact ⟨ρ1, by simp, h2 rfl⟩
    | true =>
      obtain ⟨ρ2, m', h4, h5, h6⟩ := h3 rfl
      obtain ⟨ρ', e, h7⟩ := while_inv I E h n m' ρ2 (by omega) h6
      exact ⟨ρ', by simp [h4, e], h7⟩
end Fx
set_option Elab.async false
set_option linter.all false
set_option maxRecDepth 100000
set_option maxHeartbeats 4000000
/-! Fx21: xs[j] += e. -/
namespace Fx
open PySem L2
section
variable {c : Cf} {B : List (Nat × Addr)} {W : WX} {X : Cx} {G H : Hp} {A : Addr → Prop} {σ : L2.St} {ρ : Cells} {Z : Ends}
theorem pget_list : PGet X (rIxL X.K) := by
  intro pins s σ H x y v u Q I rx ry h
  obtain ⟨p, xs, i, z, rfl, rfl, hq, he, q⟩ := h
  cases rx
  obtain ⟨t, rfl⟩ := ry
  obtain ⟨its, r, pl, hz⟩ := I.list hq
  obtain ⟨j, h1, h2, h3, h4, h5⟩ := atI_get he
  obtain ⟨w, ew, rw'⟩ := r.get h2
  have hl := r.length
  have hn := line63
  have fin : EP X pins σ Q w s := ⟨z, H, I, rw', q⟩
  rcases Int.lt_or_le i 0 with h0 | h0
  · have hj : (i + (its.toArray.size : Int)).toNat = j := by
      rw [seqIndex_neg h0 h4] at h1
      rw [List.size_toArray, ← hl]
      exact Option.some.inj h1
    refine wpAny_getItem_list_neg pl.isList h0 ?_ ?_ ?_ fin
    · rw [List.size_toArray]; omega
    · omega
    · rw [hj]; simpa using ew
  · have hj : i.toNat = j := by
      rw [seqIndex_of h0 h5] at h1
      exact Option.some.inj h1
    refine wpAny_getItem_list pl.isList h0 ?_ ?_ fin
    · omega
    · rw [hj]; simpa using ew
def augPut (i : Nat) (k v : Int) (o : D) : MS := fun ρ => match o with
  | .lst ds => match ixN ds.length k with
    | some n => .next (ρ.set i (.own (.lst (ds.set n (.int v)))))
    | none => .stuck
  | _ => .stuck
def augAdd (i : Nat) (k a : Int) (d : D) : MS := match d with
  | .int b => mDo (ownAt i) fun o => augPut i k (a + b) o
  | _ => fun _ => .stuck
def augGet (i : Nat) (fe : M D) (j o : D) : MS := match o, j with
  | .lst ds, .int k => match atI ds k with
    | some (.int a) => mDo fe fun d => augAdd i k a d
    | _ => fun _ => .stuck
  | _, _ => fun _ => .stuck
/-- xs[j] += e of whole numbers -/
def mAugIx (i : Nat) (fj fe : M D) : MS := mDo (ownAt i) fun _ => mDo fj fun j => mDo (ownAt i) fun o => augGet i fe j o
theorem ps_augIx (i : Nat) {x : Str} {ie e : Expr} {fj fe : M D} {np p pos : Pos} (he : PE X e (tM c B W fe)) (hj : PE X ie (tM c B W fj)) (hN : X.N[i]? = some x := by rfl) (hv : Vis X.env.scope x := by first | exact Or.inl rfl | exact Or.inr (Or.inl rfl) | exact Or.inr (Or.inr rfl)) (hd : (x == ("__debug__" : Str)) = false := by decide)
    (hcd : (x == ("__classdict__" : Str)) = false := by decide) (hK : c.K = X.K := by rfl)
    (ha : ∀ ov iv new, augStore ie ov iv new = (do holding [new, ov, iv] (setItem ov iv new); release [new, ov, iv] []; pure .next) := by intros; rfl) :
    PS X (.AugAssign (.Subscript (.Name x np) ie p) .Add e pos) (tS c B W (mAugIx i fj fe)) :=
  ps_imp (ps_augS (pe_var hN hv hd hcd) hj pget_list he ip_add set_list ha) fun Z σ H ⟨G, A, ρ, R, a⟩ => by
    obtain ⟨o1, e1, a1⟩ := a.ownAt
    obtain ⟨p, es, hA, hO⟩ := R.own i o1 e1
    refine ⟨_, es, G, A, ρ, R, (a1.split R).imp fun jd ρ2 G2 H2 s2 _ R2 a2 w rw' => ?_⟩
    obtain ⟨o2, e2, a2⟩ := a2.ownAt
    obtain ⟨p', es', hA', hO'⟩ := R2.own i o2 e2
    rw [es] at es'; cases es'
    cases o2 <;> first | exact a2.elim | skip
    rename_i ds
    cases jd <;> first | exact a2.elim | skip
    rename_i kk _
    obtain rfl := rep_int rw'
    obtain ⟨xs, h2, h3⟩ := hO'
    have a2 : AfterS c B W G2 A H2 ((match atI ds kk with
      | some (.int a) => mDo fe fun d => augAdd i kk a d
      | _ => fun _ => .stuck) ρ2) Z := a2
    cases ej : atI ds kk with
    | none => rw [ej] at a2; exact a2.elim
    | some dd =>
      rw [ej] at a2
      cases dd <;> first | exact a2.elim | skip
      rename_i av
      have a2 : AfterS c B W G2 A H2 ((mDo fe fun d => augAdd i kk av d) ρ2) Z := a2
      obtain ⟨v, hv1, hv2⟩ := rep_atI h3 ej
      obtain rfl := rep_int hv2
      refine ⟨p, xs, kk, .int av, rfl, rfl, SqL.of h2, hv1, G2, A, ρ2, R2, (a2.split R2).imp fun bd ρ3 G3 H3 s3 _ R3 a3 w3 rw3 => ?_⟩
      cases bd <;> first | exact a3.elim | skip
      rename_i bv
      obtain rfl := rep_int rw3
      have a3 : AfterS c B W G3 A H3 ((mDo (ownAt i) fun o => augPut i kk (av + bv) o) ρ3) Z := a3
      obtain ⟨o4, e4, a4⟩ := a3.ownAt
      obtain ⟨p4, es4, hA4, hO4⟩ := R3.own i o4 e4
      rw [es] at es4; cases es4
      cases o4 <;> first | exact a4.elim | skip
      rename_i ds4
      obtain ⟨xs4, h24, h34⟩ := hO4
      have a4 : AfterS c B W G3 A H3 (match ixN ds4.length kk with
        | some n => .next (ρ3.set i (.own (.lst (ds4.set n (.int (av + bv))))))
        | none => .stuck) Z := a4
      cases en : ixN ds4.length kk with
      | none => rw [en] at a4; exact a4.elim
      | some n =>
        rw [en] at a4
        refine ⟨av, bv, rfl, rfl, p, xs4, kk, n, rfl, rfl, h24, by rw [h34.length]; exact en, ?_⟩
        obtain ⟨R5, k5, s5⟩ := R3.setOwn (d' := .lst (ds4.set n (.int (av + bv)))) (o := .lst (xs4.set n (.int (av + bv)))) e4 es ⟨_, rfl, h34.set (.int _) n⟩
        exact AfterS.nx (AfterS.of R3.own_there (Stp.same (Same.refl _) k5) a4) R5
end
end Fx
set_option Elab.async false
set_option linter.all false
set_option maxRecDepth 100000
set_option maxHeartbeats 4000000
namespace Fx
open PySem L2
def top (i : Nat) : Stmt := PySem.Challenge.pw_stickyservers_k50_fair_lists.main.body.getD i (.Pass ⟨0, 0, 0, 0⟩)
def cfK (K : PySem.W.Frag) (C0 : Addr) (ex : Nat → Addr) : Cf := ⟨K, C0, ex, fun i => match i with | 0 => ["index", "part"] | 1 => ["session"] | 2 => ["index"] | _ => []⟩
structure Txt (K : PySem.W.Frag) (mg : Str → Option Value) (C0 : Addr) : Prop where
  blt : Blt mg
  cls : Cls K C0
  na_many : NoAttr K C0 "many"
  na_rows : NoAttr K C0 "rows"
  na_most : NoAttr K C0 "most"
  gMAX_SERVERS : ∃ t, mg "MAX_SERVERS" = some (.int 30 t)
  gMAX_SESSIONS : ∃ t, mg "MAX_SESSIONS" = some (.int 60 t)
section
variable {P : Program} {w : World} {K : PySem.W.Frag} {mg : Str → Option Value} {base : Heap} {C0 : Addr} {ex : Nat → Addr}
abbrev s_is_int : Stmt := top 8
abbrev n_is_int : List Str := ["value"]
theorem sc_is_int : FnScope n_is_int ["value"] (defScope s_is_int) := ⟨rfl, rfl, rfl, by decide +kernel, rfl, by decide +kernel, by decide +kernel⟩
def b_is_int : MS := (mRet (mAndV (mCall sIsi [(.dat (mVar 0)), (.dat (M.pure (.raw (.ty "int"))))]) (mNotV (mCall sIsi [(.dat (mVar 0)), (.dat (M.pure (.raw (.ty "bool"))))]))))
def m_is_int : Fn := mkFn 1 [] b_is_int
theorem ok_is_int {f : Addr} {fd : FuncData} (T : Txt K mg C0)  (F : FunD K "is_int" "is_int" (defArgs s_is_int) (defBody s_is_int) (defScope s_is_int) [] [] f fd) : FnOk P w K mg base (L2.CX P w) 1 f fd ["value"] (spM (cfK K C0 ex) [] 1 m_is_int) :=
  fn_ok0 (P := P) (w := w) (K := K) (mg := mg) (base := base) (c := cfK K C0 ex) (k := 0) (m := b_is_int) (st := s_is_int) (N := n_is_int) (ps := ["value"]) F sc_is_int (by decide) fun cdv A outer s H E hr =>
    (pss_oneM (ps_retM (pm_andV (b_isi T.blt (po_dat (pm_var 0)) (po_dat (b_ty T.blt.zint PyProof.Rows.boot_int))) (pm_oneV (pm_notV (b_isi T.blt (po_dat (pm_var 0)) (po_dat (b_ty T.blt.zbool PyProof.Rows.boot_bool))))))))
abbrev s_is_from : Stmt := top 9
abbrev n_is_from : List Str := ["value", "low", "high"]
theorem sc_is_from : FnScope n_is_from ["value", "low", "high"] (defScope s_is_from) := ⟨rfl, rfl, rfl, by decide +kernel, rfl, by decide +kernel, by decide +kernel⟩
def b_is_from : MS := (mRet (mAndV (mCallF m_is_int [(.dat (mVar 0))]) (mChain sLe sLe (.dat (mVar 1)) (.dat (mVar 0)) (.dat (mVar 2)))))
def m_is_from : Fn := mkFn 3 [] b_is_from
theorem ok_is_from {f : Addr} {fd : FuncData} (T : Txt K mg C0) (c_is_int : Cal P w K mg base (cfK K C0 ex) 1 "is_int" [] 1 m_is_int) (F : FunD K "is_from" "is_from" (defArgs s_is_from) (defBody s_is_from) (defScope s_is_from) [] [] f fd) : FnOk P w K mg base (L2.CX P w) 2 f fd ["value", "low", "high"] (spM (cfK K C0 ex) [] 3 m_is_from) :=
  fn_ok0 (P := P) (w := w) (K := K) (mg := mg) (base := base) (c := cfK K C0 ex) (k := 1) (m := b_is_from) (st := s_is_from) (N := n_is_from) (ps := ["value", "low", "high"]) F sc_is_from (by decide) fun cdv A outer s H E hr =>
    (pss_oneM (ps_retM (pm_andV (pm_cal c_is_int hr (takes_of rfl rfl rfl rfl) (pr_dat (pm_var 0) pr_nil)) (pm_oneV (o_chlele (po_dat (pm_var 1)) (po_dat (pm_var 0)) (po_dat (pm_var 2)))))))
abbrev s_is_row : Stmt := top 10
abbrev n_is_row : List Str := ["value", "servers", "server"]
theorem sc_is_row : FnScope n_is_row ["value", "servers"] (defScope s_is_row) := ⟨rfl, rfl, rfl, by decide +kernel, rfl, by decide +kernel, by decide +kernel⟩
def b_is_row : MS := (mSeq (mIfS (mOr (mNot (mB (mCall sIsi [(.dat (mVar 0)), (.dat (M.pure (.raw (.ty "tuple"))))]))) (mB (mOp2 sEq (.dat (mVar 0)) (.dat (mTup []))))) (mRet (M.pure (.bl false))) mSkip) (mSeq (mIfS (mNot (mB (mCall sAll [(.dat (mLc (mSeqI (mVar 0)) (gNm 2) (M.pure true) (mCallF m_is_from [(.dat (mVar 2)), (.dat (M.pure (.int 0))), (.dat (mOp2 sSub (.dat (mVar 1)) (.dat (M.pure (.int 1)))))]) [2]))]))) (mRet (M.pure (.bl false))) mSkip) (mRet (mOp2 sEq (.dat (mLenSet (mVar 0))) (.dat (mCall sLen [(.dat (mVar 0))]))))))
def m_is_row : Fn := mkFn 3 [] b_is_row
theorem ok_is_row {f : Addr} {fd : FuncData} (T : Txt K mg C0) (c_is_from : Cal P w K mg base (cfK K C0 ex) 2 "is_from" [] 3 m_is_from) (F : FunD K "is_row" "is_row" (defArgs s_is_row) (defBody s_is_row) (defScope s_is_row) [] [] f fd) : FnOk P w K mg base (L2.CX P w) 3 f fd ["value", "servers"] (spM (cfK K C0 ex) [] 2 m_is_row) :=
  fn_ok0 (P := P) (w := w) (K := K) (mg := mg) (base := base) (c := cfK K C0 ex) (k := 2) (m := b_is_row) (st := s_is_row) (N := n_is_row) (ps := ["value", "servers"]) F sc_is_row (by decide) fun cdv A outer s H E hr =>
    (pss_consM (ps_ifM (t_or (pt_notM (pt_v (b_isi T.blt (po_dat (pm_var 0)) (po_dat (b_ty T.blt.ztuple PyProof.Rows.boot_tuple))))) (pw_and1' (t_eq hr.units (po_dat (pm_var 0)) (po_dat (pm_tup pd_nil))))) (pss_oneM (ps_retM pm_bl)) pss_nilM) (pss_consM (ps_ifM (pt_notM (pt_v (b_all T.blt rfl (po_dat (pm_of_pf (pf_lc [("server", 2)] rfl sc_is_row.nd (pi_seqM rfl (pm_var 0)) (blk_of (by rfl)) (by rfl) (by rfl) (fun s H C cl fp => (pg_nm 2 sc_is_row.nd rfl)) (fun s H C cl fp => pts_nilM) (fun s H C cl fp => (pm_cal c_is_from hr takes0 (pr_dat (pm_var 2) (pr_dat pm_int (pr_dat (o_sub (po_dat (pm_var 1)) (po_dat pm_int)) pr_nil))))))))))) (pss_oneM (ps_retM pm_bl)) pss_nilM) (pss_oneM (ps_retM (o_eq hr.units (po_dat (b_lenset T.blt rfl (pm_var 0))) (po_dat (b_len T.blt (po_dat (pm_var 0)))))))))
abbrev s_Farmdd_initdd : Stmt := inClass (top 11) 0
abbrev n_Farmdd_initdd : List Str := ["self", "servers", "lists", "failures", "index", "row"]
theorem sc_Farmdd_initdd : FnScope n_Farmdd_initdd ["self", "servers", "lists", "failures"] (defScope s_Farmdd_initdd) := ⟨rfl, rfl, rfl, by decide +kernel, rfl, by decide +kernel, by decide +kernel⟩
def b_Farmdd_initdd : MS := (mSeq (mIfS (mNot (mB (mCallF m_is_from [(.dat (mVar 1)), (.dat (M.pure (.int 1))), (.dat (M.pure (.int 30)))]))) (mRaise 0 [(M.pure (.str "servers")), (mNeg (M.pure (.int 1)))]) mSkip) (mSeq (mIfS (mOr (mNot (mB (mCall sIsi [(.dat (mVar 2)), (.dat (M.pure (.raw (.ty "list"))))]))) (mB (mOp2 sGt (.dat (mCall sLen [(.dat (mVar 2))])) (.dat (M.pure (.int 60)))))) (mRaise 0 [(M.pure (.str "lists")), (mNeg (M.pure (.int 1)))]) mSkip) (mSeq (mFor (mEnum (mVar 2)) (gTp [4, 5]) (mIfS (mNot (mB (mCallF m_is_row [(.dat (mVar 5)), (.dat (mVar 1))]))) (mRaise 0 [(M.pure (.str "lists")), (mVar 4)]) mSkip)) (mSeq (mIfS (mNot (mB (mCallF m_is_from [(.dat (mVar 3)), (.dat (M.pure (.int 0))), (.dat (mVar 1))]))) (mRaise 0 [(M.pure (.str "failures")), (mNeg (M.pure (.int 1)))]) mSkip) (mSeq (mSetF 0 "many" (mVar 1)) (mSeq (mSetF 0 "rows" (mCall sTuple [(.dat (mVar 2))])) (mSetF 0 "most" (mVar 3))))))))
def m_Farmdd_initdd : Fn := mkFn 6 [0] b_Farmdd_initdd
theorem ok_Farmdd_initdd {f : Addr} {fd : FuncData} (T : Txt K mg C0) (c_is_from : Cal P w K mg base (cfK K C0 ex) 2 "is_from" [] 3 m_is_from) (c_NoFarm : CalX2 P w K mg base (cfK K C0 ex) 1 0 "NoFarm" "part" "index") (c_is_row : Cal P w K mg base (cfK K C0 ex) 3 "is_row" [] 2 m_is_row) (F : FunD K "__init__" "Farm.__init__" (defArgs s_Farmdd_initdd) (defBody s_Farmdd_initdd) (defScope s_Farmdd_initdd) [] [] f fd) : FnOk P w K mg base (L2.CX P w) 4 f fd ["self", "servers", "lists", "failures"] (spM (cfK K C0 ex) [0] 4 m_Farmdd_initdd) :=
  fn_ok1 0 (P := P) (w := w) (K := K) (mg := mg) (base := base) (c := cfK K C0 ex) (k := 3) (m := b_Farmdd_initdd) (st := s_Farmdd_initdd) (N := n_Farmdd_initdd) (ps := ["self", "servers", "lists", "failures"]) F sc_Farmdd_initdd (by decide) (by decide) fun aR cdv A outer s H E hr =>
    (pss_consM (ps_ifM (pt_notM (pt_v (pm_cal c_is_from hr (takes_of rfl rfl rfl rfl) (pr_dat (pm_var 1) (pr_dat pm_int (pr_dat (pm_globI T.gMAX_SERVERS.choose_spec) pr_nil)))))) (pss_oneM (ps_x2 c_NoFarm rfl (takes_of rfl rfl rfl rfl) hr pm_str (pm_neg pm_int))) pss_nilM) (pss_consM (ps_ifM (t_or (pt_notM (pt_v (b_isi T.blt (po_dat (pm_var 2)) (po_dat (b_ty T.blt.zlist PyProof.Rows.boot_list))))) (pw_and1' (t_gt (po_dat (b_len T.blt (po_dat (pm_var 2)))) (po_dat (pm_globI T.gMAX_SESSIONS.choose_spec))))) (pss_oneM (ps_x2 c_NoFarm rfl (takes_of rfl rfl rfl rfl) hr pm_str (pm_neg pm_int))) pss_nilM) (pss_consM (ps_forM (passes_of rfl) rfl (pi_enumM rfl T.blt.zenumerate (pm_var 2)) (pg_tpM rfl rfl (pgs_consM (pg_nm 4 sc_Farmdd_initdd.nd rfl) (pgs_consM (pg_nm 5 sc_Farmdd_initdd.nd rfl) pgs_nilM))) (pss_oneM (ps_ifM (pt_notM (pt_v (pm_cal c_is_row hr (takes_of rfl rfl rfl rfl) (pr_dat (pm_var 5) (pr_dat (pm_var 1) pr_nil))))) (pss_oneM (ps_x2 c_NoFarm rfl (takes_of rfl rfl rfl rfl) hr pm_str (pm_var 4))) pss_nilM))) (pss_consM (ps_ifM (pt_notM (pt_v (pm_cal c_is_from hr (takes_of rfl rfl rfl rfl) (pr_dat (pm_var 3) (pr_dat pm_int (pr_dat (pm_var 1) pr_nil)))))) (pss_oneM (ps_x2 c_NoFarm rfl (takes_of rfl rfl rfl rfl) hr pm_str (pm_neg pm_int))) pss_nilM) (pss_consM (ps_setF 0 T.cls T.na_many (pm_var 1)) (pss_consM (ps_setF 0 T.cls T.na_rows (b_tuple T.blt (po_dat (pm_var 2)))) (pss_oneM (ps_setF 0 T.cls T.na_most (pm_var 3)))))))))
abbrev s_Farmdd_lendd : Stmt := inClass (top 11) 2
abbrev n_Farmdd_lendd : List Str := ["self"]
theorem sc_Farmdd_lendd : FnScope n_Farmdd_lendd ["self"] (defScope s_Farmdd_lendd) := ⟨rfl, rfl, rfl, by decide +kernel, rfl, by decide +kernel, by decide +kernel⟩
def b_Farmdd_lendd : MS := (mRet (mCall sLen [(.dat (mFld (mVar 0) "rows"))]))
def m_Farmdd_lendd : Fn := mkFn 1 [] b_Farmdd_lendd
theorem ok_Farmdd_lendd {f : Addr} {fd : FuncData} (T : Txt K mg C0)  (F : FunD K "__len__" "Farm.__len__" (defArgs s_Farmdd_lendd) (defBody s_Farmdd_lendd) (defScope s_Farmdd_lendd) [] [] f fd) : FnOk P w K mg base (L2.CX P w) 1 f fd ["self"] (spM (cfK K C0 ex) [] 1 m_Farmdd_lendd) :=
  fn_ok0 (P := P) (w := w) (K := K) (mg := mg) (base := base) (c := cfK K C0 ex) (k := 0) (m := b_Farmdd_lendd) (st := s_Farmdd_lendd) (N := n_Farmdd_lendd) (ps := ["self"]) F sc_Farmdd_lendd (by decide) fun cdv A outer s H E hr =>
    (pss_oneM (ps_retM (b_len T.blt (po_dat (pm_fld T.cls T.na_rows (pm_var 0))))))
abbrev s_Farm_servers : Stmt := inClass (top 11) 3
abbrev n_Farm_servers : List Str := ["self"]
theorem sc_Farm_servers : FnScope n_Farm_servers ["self"] (defScope s_Farm_servers) := ⟨rfl, rfl, rfl, by decide +kernel, rfl, by decide +kernel, by decide +kernel⟩
def b_Farm_servers : MS := (mRet (mFld (mVar 0) "many"))
def m_Farm_servers : Fn := mkFn 1 [] b_Farm_servers
theorem ok_Farm_servers {f : Addr} {fd : FuncData} (T : Txt K mg C0)  (F : FunD K "servers" "Farm.servers" (defArgs s_Farm_servers) (defBody s_Farm_servers) (defScope s_Farm_servers) [] [] f fd) : FnOk P w K mg base (L2.CX P w) 1 f fd ["self"] (spM (cfK K C0 ex) [] 1 m_Farm_servers) :=
  fn_ok0 (P := P) (w := w) (K := K) (mg := mg) (base := base) (c := cfK K C0 ex) (k := 0) (m := b_Farm_servers) (st := s_Farm_servers) (N := n_Farm_servers) (ps := ["self"]) F sc_Farm_servers (by decide) fun cdv A outer s H E hr =>
    (pss_oneM (ps_retM (pm_fld T.cls T.na_many (pm_var 0))))
abbrev s_Farm_lists : Stmt := inClass (top 11) 4
abbrev n_Farm_lists : List Str := ["self"]
theorem sc_Farm_lists : FnScope n_Farm_lists ["self"] (defScope s_Farm_lists) := ⟨rfl, rfl, rfl, by decide +kernel, rfl, by decide +kernel, by decide +kernel⟩
def b_Farm_lists : MS := (mRet (mCall sList [(.dat (mFld (mVar 0) "rows"))]))
def m_Farm_lists : Fn := mkFn 1 [] b_Farm_lists
theorem ok_Farm_lists {f : Addr} {fd : FuncData} (T : Txt K mg C0)  (F : FunD K "lists" "Farm.lists" (defArgs s_Farm_lists) (defBody s_Farm_lists) (defScope s_Farm_lists) [] [] f fd) : FnOk P w K mg base (L2.CX P w) 1 f fd ["self"] (spM (cfK K C0 ex) [] 1 m_Farm_lists) :=
  fn_ok0 (P := P) (w := w) (K := K) (mg := mg) (base := base) (c := cfK K C0 ex) (k := 0) (m := b_Farm_lists) (st := s_Farm_lists) (N := n_Farm_lists) (ps := ["self"]) F sc_Farm_lists (by decide) fun cdv A outer s H E hr =>
    (pss_oneM (ps_retM (pm_of_pf (b_list T.blt (po_dat (pm_fld T.cls T.na_rows (pm_var 0)))))))
abbrev s_Farm_failures : Stmt := inClass (top 11) 5
abbrev n_Farm_failures : List Str := ["self"]
theorem sc_Farm_failures : FnScope n_Farm_failures ["self"] (defScope s_Farm_failures) := ⟨rfl, rfl, rfl, by decide +kernel, rfl, by decide +kernel, by decide +kernel⟩
def b_Farm_failures : MS := (mRet (mFld (mVar 0) "most"))
def m_Farm_failures : Fn := mkFn 1 [] b_Farm_failures
theorem ok_Farm_failures {f : Addr} {fd : FuncData} (T : Txt K mg C0)  (F : FunD K "failures" "Farm.failures" (defArgs s_Farm_failures) (defBody s_Farm_failures) (defScope s_Farm_failures) [] [] f fd) : FnOk P w K mg base (L2.CX P w) 1 f fd ["self"] (spM (cfK K C0 ex) [] 1 m_Farm_failures) :=
  fn_ok0 (P := P) (w := w) (K := K) (mg := mg) (base := base) (c := cfK K C0 ex) (k := 0) (m := b_Farm_failures) (st := s_Farm_failures) (N := n_Farm_failures) (ps := ["self"]) F sc_Farm_failures (by decide) fun cdv A outer s H E hr =>
    (pss_oneM (ps_retM (pm_fld T.cls T.na_most (pm_var 0))))
abbrev s_Farm_check_session : Stmt := inClass (top 11) 7
abbrev n_Farm_check_session : List Str := ["self", "session"]
theorem sc_Farm_check_session : FnScope n_Farm_check_session ["self", "session"] (defScope s_Farm_check_session) := ⟨rfl, rfl, rfl, by decide +kernel, rfl, by decide +kernel, by decide +kernel⟩
def b_Farm_check_session : MS := (mIfS (mNot (mB (mCallF m_is_from [(.dat (mVar 1)), (.dat (M.pure (.int 0))), (.dat (mOp2 sSub (.dat (mCall sLen [(.dat (mFld (mVar 0) "rows"))])) (.dat (M.pure (.int 1)))))]))) (mRaise 1 [(mVar 1)]) mSkip)
def m_Farm_check_session : Fn := mkFn 2 [] b_Farm_check_session
theorem ok_Farm_check_session {f : Addr} {fd : FuncData} (T : Txt K mg C0) (c_is_from : Cal P w K mg base (cfK K C0 ex) 2 "is_from" [] 3 m_is_from) (c_NoSession : CalX1 P w K mg base (cfK K C0 ex) 1 1 "NoSession" "session") (F : FunD K "check_session" "Farm.check_session" (defArgs s_Farm_check_session) (defBody s_Farm_check_session) (defScope s_Farm_check_session) [] [] f fd) : FnOk P w K mg base (L2.CX P w) 3 f fd ["self", "session"] (spM (cfK K C0 ex) [] 2 m_Farm_check_session) :=
  fn_ok0 (P := P) (w := w) (K := K) (mg := mg) (base := base) (c := cfK K C0 ex) (k := 2) (m := b_Farm_check_session) (st := s_Farm_check_session) (N := n_Farm_check_session) (ps := ["self", "session"]) F sc_Farm_check_session (by decide) fun cdv A outer s H E hr =>
    (pss_oneM (ps_ifM (pt_notM (pt_v (pm_cal c_is_from hr (takes_of rfl rfl rfl rfl) (pr_dat (pm_var 1) (pr_dat pm_int (pr_dat (o_sub (po_dat (b_len T.blt (po_dat (pm_fld T.cls T.na_rows (pm_var 0))))) (po_dat pm_int)) pr_nil)))))) (pss_oneM (ps_x1 c_NoSession rfl (takes_of rfl rfl rfl rfl) hr (pm_var 1))) pss_nilM))
abbrev s_check_sizes : Stmt := top 13
abbrev n_check_sizes : List Str := ["servers", "sessions", "failures"]
theorem sc_check_sizes : FnScope n_check_sizes ["servers", "sessions", "failures"] (defScope s_check_sizes) := ⟨rfl, rfl, rfl, by decide +kernel, rfl, by decide +kernel, by decide +kernel⟩
def b_check_sizes : MS := (mSeq (mIfS (mNot (mB (mCallF m_is_from [(.dat (mVar 0)), (.dat (M.pure (.int 1))), (.dat (M.pure (.int 30)))]))) (mRaise 0 [(M.pure (.str "servers")), (mNeg (M.pure (.int 1)))]) mSkip) (mSeq (mIfS (mNot (mB (mCallF m_is_from [(.dat (mVar 1)), (.dat (M.pure (.int 0))), (.dat (M.pure (.int 60)))]))) (mRaise 0 [(M.pure (.str "lists")), (mNeg (M.pure (.int 1)))]) mSkip) (mIfS (mNot (mB (mCallF m_is_from [(.dat (mVar 2)), (.dat (M.pure (.int 0))), (.dat (mOp2 sSub (.dat (mVar 0)) (.dat (M.pure (.int 1)))))]))) (mRaise 0 [(M.pure (.str "failures")), (mNeg (M.pure (.int 1)))]) mSkip)))
def m_check_sizes : Fn := mkFn 3 [] b_check_sizes
theorem ok_check_sizes {f : Addr} {fd : FuncData} (T : Txt K mg C0) (c_is_from : Cal P w K mg base (cfK K C0 ex) 2 "is_from" [] 3 m_is_from) (c_NoFarm : CalX2 P w K mg base (cfK K C0 ex) 1 0 "NoFarm" "part" "index") (F : FunD K "check_sizes" "check_sizes" (defArgs s_check_sizes) (defBody s_check_sizes) (defScope s_check_sizes) [] [] f fd) : FnOk P w K mg base (L2.CX P w) 3 f fd ["servers", "sessions", "failures"] (spM (cfK K C0 ex) [] 3 m_check_sizes) :=
  fn_ok0 (P := P) (w := w) (K := K) (mg := mg) (base := base) (c := cfK K C0 ex) (k := 2) (m := b_check_sizes) (st := s_check_sizes) (N := n_check_sizes) (ps := ["servers", "sessions", "failures"]) F sc_check_sizes (by decide) fun cdv A outer s H E hr =>
    (pss_consM (ps_ifM (pt_notM (pt_v (pm_cal c_is_from hr (takes_of rfl rfl rfl rfl) (pr_dat (pm_var 0) (pr_dat pm_int (pr_dat (pm_globI T.gMAX_SERVERS.choose_spec) pr_nil)))))) (pss_oneM (ps_x2 c_NoFarm rfl (takes_of rfl rfl rfl rfl) hr pm_str (pm_neg pm_int))) pss_nilM) (pss_consM (ps_ifM (pt_notM (pt_v (pm_cal c_is_from hr (takes_of rfl rfl rfl rfl) (pr_dat (pm_var 1) (pr_dat pm_int (pr_dat (pm_globI T.gMAX_SESSIONS.choose_spec) pr_nil)))))) (pss_oneM (ps_x2 c_NoFarm rfl (takes_of rfl rfl rfl rfl) hr pm_str (pm_neg pm_int))) pss_nilM) (pss_oneM (ps_ifM (pt_notM (pt_v (pm_cal c_is_from hr (takes_of rfl rfl rfl rfl) (pr_dat (pm_var 2) (pr_dat pm_int (pr_dat (o_sub (po_dat (pm_var 0)) (po_dat pm_int)) pr_nil)))))) (pss_oneM (ps_x2 c_NoFarm rfl (takes_of rfl rfl rfl rfl) hr pm_str (pm_neg pm_int))) pss_nilM))))
abbrev s_least_worst_load : Stmt := top 14
abbrev n_least_worst_load : List Str := ["servers", "sessions", "failures"]
theorem sc_least_worst_load : FnScope n_least_worst_load ["servers", "sessions", "failures"] (defScope s_least_worst_load) := ⟨rfl, rfl, rfl, by decide +kernel, rfl, by decide +kernel, by decide +kernel⟩
def b_least_worst_load : MS := (mSeq (mExpr (mCallF m_check_sizes [(.dat (mVar 0)), (.dat (mVar 1)), (.dat (mVar 2))])) (mRet (mOp2 sFdiv (.dat (mOp2 sSub (.dat (mOp2 sAdd (.dat (mOp2 sMul (.dat (mVar 1)) (.dat (mOp2 sAdd (.dat (mVar 2)) (.dat (M.pure (.int 1))))))) (.dat (mVar 0)))) (.dat (M.pure (.int 1))))) (.dat (mVar 0)))))
def m_least_worst_load : Fn := mkFn 3 [] b_least_worst_load
theorem ok_least_worst_load {f : Addr} {fd : FuncData} (T : Txt K mg C0) (c_check_sizes : Cal P w K mg base (cfK K C0 ex) 3 "check_sizes" [] 3 m_check_sizes) (F : FunD K "least_worst_load" "least_worst_load" (defArgs s_least_worst_load) (defBody s_least_worst_load) (defScope s_least_worst_load) [] [] f fd) : FnOk P w K mg base (L2.CX P w) 4 f fd ["servers", "sessions", "failures"] (spM (cfK K C0 ex) [] 3 m_least_worst_load) :=
  fn_ok0 (P := P) (w := w) (K := K) (mg := mg) (base := base) (c := cfK K C0 ex) (k := 3) (m := b_least_worst_load) (st := s_least_worst_load) (N := n_least_worst_load) (ps := ["servers", "sessions", "failures"]) F sc_least_worst_load (by decide) fun cdv A outer s H E hr =>
    (pss_consM (ps_exprM (pm_cal c_check_sizes hr (takes_of rfl rfl rfl rfl) (pr_dat (pm_var 0) (pr_dat (pm_var 1) (pr_dat (pm_var 2) pr_nil))))) (pss_oneM (ps_retM (o_fdiv (po_dat (o_sub (po_dat (o_add (po_dat (o_mul (po_dat (pm_var 1)) (po_dat (o_add (po_dat (pm_var 2)) (po_dat pm_int))))) (po_dat (pm_var 0)))) (po_dat pm_int))) (po_dat (pm_var 0))))))
abbrev s_fair_farm : Stmt := top 15
abbrev n_fair_farm : List Str := ["servers", "sessions", "failures", "size", "rows", "session", "place"]
theorem sc_fair_farm : FnScope n_fair_farm ["servers", "sessions", "failures"] (defScope s_fair_farm) := ⟨rfl, rfl, rfl, by decide +kernel, rfl, by decide +kernel, by decide +kernel⟩
def b_fair_farm : MS := (mSeq (mExpr (mCallF m_check_sizes [(.dat (mVar 0)), (.dat (mVar 1)), (.dat (mVar 2))])) (mSeq (mAsg (mOp2 sAdd (.dat (mVar 2)) (.dat (M.pure (.int 1)))) (gNm 3)) (mSeq (mNew (mLst []) 4) (mSeq (mFor (mRange1 (mVar 1)) (gNm 5) (mExpr (mMethWR wAppend 4 [(mCall sTuple [(.dat (mLc (mRange1 (mVar 3)) (gNm 6) (M.pure true) (mOp2 sMod (.dat (mOp2 sAdd (.dat (mOp2 sMul (.dat (mVar 5)) (.dat (mVar 3)))) (.dat (mVar 6)))) (.dat (mVar 0))) [6]))])]))) (mFrz 4 (mRet (mMake m_Farmdd_initdd [(mVar 0), (mVar 4), (mVar 2)])))))))
def m_fair_farm : Fn := mkFn 7 [] b_fair_farm
theorem ok_fair_farm {f : Addr} {fd : FuncData} (T : Txt K mg C0) (c_check_sizes : Cal P w K mg base (cfK K C0 ex) 3 "check_sizes" [] 3 m_check_sizes) (c_Farm : CalM P w K mg base (cfK K C0 ex) 4 "Farm" 4 m_Farmdd_initdd) (F : FunD K "fair_farm" "fair_farm" (defArgs s_fair_farm) (defBody s_fair_farm) (defScope s_fair_farm) [] [] f fd) : FnOk P w K mg base (L2.CX P w) 6 f fd ["servers", "sessions", "failures"] (spM (cfK K C0 ex) [] 3 m_fair_farm) :=
  fn_ok0 (P := P) (w := w) (K := K) (mg := mg) (base := base) (c := cfK K C0 ex) (k := 5) (m := b_fair_farm) (st := s_fair_farm) (N := n_fair_farm) (ps := ["servers", "sessions", "failures"]) F sc_fair_farm (by decide) fun cdv A outer s H E hr =>
    (pss_consM (ps_exprM (pm_cal c_check_sizes hr (takes_of rfl rfl rfl rfl) (pr_dat (pm_var 0) (pr_dat (pm_var 1) (pr_dat (pm_var 2) pr_nil))))) (pss_consM (ps_asgM (o_add (po_dat (pm_var 2)) (po_dat pm_int)) (pg_nm 3 sc_fair_farm.nd rfl)) (pss_consM (ps_newM 4 sc_fair_farm.nd (pf_lst pd_nil) rfl) (pss_consM (ps_forM (passes_of rfl) rfl (pi_range1M T.blt.zrange (pm_var 1)) (pg_nm 5 sc_fair_farm.nd rfl) (pss_oneM (ps_exprM (m_append 4 (b_tuple T.blt (po_dat (pm_of_pf (pf_lc [("place", 6)] rfl sc_fair_farm.nd (pi_range1M T.blt.zrange (pm_var 3)) (blk_of (by rfl)) (by rfl) (by rfl) (fun s H C cl fp => (pg_nm 6 sc_fair_farm.nd rfl)) (fun s H C cl fp => pts_nilM) (fun s H C cl fp => (o_mod (po_dat (o_add (po_dat (o_mul (po_dat (pm_var 5)) (po_dat (pm_var 3)))) (po_dat (pm_var 6)))) (po_dat (pm_var 0)))))))))))) (pss_oneM (ps_frz 4 rfl (ps_retM (pm_calM c_Farm hr (takes_of rfl rfl rfl rfl) (pd_cons (pm_var 0) (pd_cons (pm_var 4) (pd_cons (pm_var 2) pd_nil)))))))))))
abbrev s_worst_load : Stmt := top 16
abbrev n_worst_load : List Str := ["farm", "found", "row", "server"]
theorem sc_worst_load : FnScope n_worst_load ["farm"] (defScope s_worst_load) := ⟨rfl, rfl, rfl, by decide +kernel, rfl, by decide +kernel, by decide +kernel⟩
def b_worst_load : MS := (mSeq (mNew (mOp2 sMulL (.dat (mLst [(M.pure (.int 0))])) (.dat (mFld (mVar 0) "many"))) 1) (mSeq (mFor (mSeqI (mFld (mVar 0) "rows")) (gNm 2) (mFor (mSeqI (mSl sCut (.dat (mVar 2)) none (some (mOp2 sAdd (.dat (mFld (mVar 0) "most")) (.dat (M.pure (.int 1))))))) (gNm 3) (mAugIx 1 (mVar 3) (M.pure (.int 1))))) (mRet (mTup [(mCall sMax [(.own 1)]), (mMeth isLst sLix (.own 1) [(.dat (mCall sMax [(.own 1)]))])]))))
def m_worst_load : Fn := mkFn 4 [] b_worst_load
theorem ok_worst_load {f : Addr} {fd : FuncData} (T : Txt K mg C0)  (F : FunD K "worst_load" "worst_load" (defArgs s_worst_load) (defBody s_worst_load) (defScope s_worst_load) [] [] f fd) : FnOk P w K mg base (L2.CX P w) 1 f fd ["farm"] (spM (cfK K C0 ex) [] 1 m_worst_load) :=
  fn_ok0 (P := P) (w := w) (K := K) (mg := mg) (base := base) (c := cfK K C0 ex) (k := 0) (m := b_worst_load) (st := s_worst_load) (N := n_worst_load) (ps := ["farm"]) F sc_worst_load (by decide) fun cdv A outer s H E hr =>
    (pss_consM (ps_newM 1 sc_worst_load.nd (f_mul (po_dat (pm_of_pf (pf_lst (pd_cons pm_int pd_nil)))) (po_dat (pm_fld T.cls T.na_many (pm_var 0)))) rfl) (pss_consM (ps_forM (passes_of rfl) rfl (pi_seqM rfl (pm_fld T.cls T.na_rows (pm_var 0))) (pg_nm 2 sc_worst_load.nd rfl) (pss_oneM (ps_forM (passes_of rfl) rfl (pi_seqM rfl (o_sl (po_dat (pm_var 2)) pp_none (pp_some (o_add (po_dat (pm_fld T.cls T.na_most (pm_var 0))) (po_dat pm_int))))) (pg_nm 3 sc_worst_load.nd rfl) (pss_oneM (ps_augIx 1 pm_int (pm_var 3)))))) (pss_oneM (ps_retM (pm_tup (pd_cons (b_max T.blt rfl (pa_consO (po_own 1) pa_nilO)) (pd_cons (m_lindex (po_own 1) (po_dat (b_max T.blt rfl (pa_consO (po_own 1) pa_nilO)))) pd_nil)))))))
abbrev s_near : Stmt := top 18
abbrev n_near : List Str := ["farm", "session"]
theorem sc_near : FnScope n_near ["farm", "session"] (defScope s_near) := ⟨rfl, rfl, rfl, by decide +kernel, rfl, by decide +kernel, by decide +kernel⟩
def b_near : MS := (mRet (mSl sCut (.dat (mOp2 sIx (.dat (mFld (mVar 0) "rows")) (.dat (mVar 1)))) none (some (mOp2 sAdd (.dat (mFld (mVar 0) "most")) (.dat (M.pure (.int 1)))))))
def m_near : Fn := mkFn 2 [] b_near
theorem ok_near {f : Addr} {fd : FuncData} (T : Txt K mg C0)  (F : FunD K "near" "near" (defArgs s_near) (defBody s_near) (defScope s_near) [] [] f fd) : FnOk P w K mg base (L2.CX P w) 1 f fd ["farm", "session"] (spM (cfK K C0 ex) [] 2 m_near) :=
  fn_ok0 (P := P) (w := w) (K := K) (mg := mg) (base := base) (c := cfK K C0 ex) (k := 0) (m := b_near) (st := s_near) (N := n_near) (ps := ["farm", "session"]) F sc_near (by decide) fun cdv A outer s H E hr =>
    (pss_oneM (ps_retM (o_sl (po_dat (o_ix (po_dat (pm_fld T.cls T.na_rows (pm_var 0))) (po_dat (pm_var 1)))) pp_none (pp_some (o_add (po_dat (pm_fld T.cls T.na_most (pm_var 0))) (po_dat pm_int))))))
abbrev s_first_bad_server : Stmt := top 19
abbrev n_first_bad_server : List Str := ["farm", "servers", "index", "server"]
theorem sc_first_bad_server : FnScope n_first_bad_server ["farm", "servers"] (defScope s_first_bad_server) := ⟨rfl, rfl, rfl, by decide +kernel, rfl, by decide +kernel, by decide +kernel⟩
def b_first_bad_server : MS := (mSeq (mFor (mEnum (mVar 1)) (gTp [2, 3]) (mIfS (mOr (mNot (mB (mCallF m_is_from [(.dat (mVar 3)), (.dat (M.pure (.int 0))), (.dat (mOp2 sSub (.dat (mFld (mVar 0) "many")) (.dat (M.pure (.int 1)))))]))) (mB (mOp2 sIn (.dat (mVar 3)) (.dat (mSl sCut (.dat (mVar 1)) none (some (mVar 2))))))) (mRet (mVar 2)) mSkip)) (mRet (M.pure .non)))
def m_first_bad_server : Fn := mkFn 4 [] b_first_bad_server
theorem ok_first_bad_server {f : Addr} {fd : FuncData} (T : Txt K mg C0) (c_is_from : Cal P w K mg base (cfK K C0 ex) 2 "is_from" [] 3 m_is_from) (F : FunD K "first_bad_server" "first_bad_server" (defArgs s_first_bad_server) (defBody s_first_bad_server) (defScope s_first_bad_server) [] [] f fd) : FnOk P w K mg base (L2.CX P w) 3 f fd ["farm", "servers"] (spM (cfK K C0 ex) [] 2 m_first_bad_server) :=
  fn_ok0 (P := P) (w := w) (K := K) (mg := mg) (base := base) (c := cfK K C0 ex) (k := 2) (m := b_first_bad_server) (st := s_first_bad_server) (N := n_first_bad_server) (ps := ["farm", "servers"]) F sc_first_bad_server (by decide) fun cdv A outer s H E hr =>
    (pss_consM (ps_forM (passes_of rfl) rfl (pi_enumM rfl T.blt.zenumerate (pm_var 1)) (pg_tpM rfl rfl (pgs_consM (pg_nm 2 sc_first_bad_server.nd rfl) (pgs_consM (pg_nm 3 sc_first_bad_server.nd rfl) pgs_nilM))) (pss_oneM (ps_ifM (t_or (pt_notM (pt_v (pm_cal c_is_from hr (takes_of rfl rfl rfl rfl) (pr_dat (pm_var 3) (pr_dat pm_int (pr_dat (o_sub (po_dat (pm_fld T.cls T.na_many (pm_var 0))) (po_dat pm_int)) pr_nil)))))) (pw_and1' (t_in hr.units (po_dat (pm_var 3)) (po_dat (o_sl (po_dat (pm_var 1)) pp_none (pp_some (pm_var 2))))))) (pss_oneM (ps_retM (pm_var 2))) pss_nilM))) (pss_oneM (ps_retM pm_non)))
abbrev s_greatest_load : Stmt := top 20
abbrev n_greatest_load : List Str := ["farm", "servers", "index", "found", "session", "server"]
theorem sc_greatest_load : FnScope n_greatest_load ["farm", "servers"] (defScope s_greatest_load) := ⟨rfl, rfl, rfl, by decide +kernel, rfl, by decide +kernel, by decide +kernel⟩
def b_greatest_load : MS := (mSeq (mIfS (mNot (mB (mCall sIsi [(.dat (mVar 1)), (.dat (M.pure (.raw (.ty "tuple"))))]))) (mRaise 2 [(mNeg (M.pure (.int 1)))]) mSkip) (mSeq (mAsg (mCallF m_first_bad_server [(.dat (mVar 0)), (.dat (mVar 1))]) (gNm 2)) (mSeq (mIfS (mB (mOp2 sNotN (.dat (mVar 2)) (.dat (M.pure .non)))) (mRaise 2 [(mVar 2)]) mSkip) (mSeq (mNew (mLst []) 3) (mSeq (mFor (mRange1 (mLenF m_Farmdd_lendd (mVar 0))) (gNm 4) (mExpr (mMethWR wAppend 3 [(mOp2 sIx (.dat (mOp2 sAdd (.dat (mLc (mSeqI (mCallF m_near [(.dat (mVar 0)), (.dat (mVar 4))])) (gNm 5) (mB (mOp2 sIn (.dat (mVar 5)) (.dat (mVar 1)))) (mVar 5) [5])) (.dat (mLst [(M.pure .non)])))) (.dat (M.pure (.int 0))))]))) (mFrz 3 (mRet (mTup [(mCall sLen [(.dat (mLc (mSeqI (mVar 3)) (gNm 5) (mB (mOp2 sNotN (.dat (mVar 5)) (.dat (M.pure .non)))) (mVar 5) [5]))]), (mCall sTuple [(.own 3)])]))))))))
def m_greatest_load : Fn := mkFn 6 [] b_greatest_load
theorem ok_greatest_load {f : Addr} {fd : FuncData} (T : Txt K mg C0) (c_NoServers : CalX1 P w K mg base (cfK K C0 ex) 1 2 "NoServers" "index") (c_first_bad_server : Cal P w K mg base (cfK K C0 ex) 3 "first_bad_server" [] 2 m_first_bad_server) (c_len : CalL P w K mg base (cfK K C0 ex) 1 m_Farmdd_lendd) (c_near : Cal P w K mg base (cfK K C0 ex) 1 "near" [] 2 m_near) (F : FunD K "greatest_load" "greatest_load" (defArgs s_greatest_load) (defBody s_greatest_load) (defScope s_greatest_load) [] [] f fd) : FnOk P w K mg base (L2.CX P w) 4 f fd ["farm", "servers"] (spM (cfK K C0 ex) [] 2 m_greatest_load) :=
  fn_ok0 (P := P) (w := w) (K := K) (mg := mg) (base := base) (c := cfK K C0 ex) (k := 3) (m := b_greatest_load) (st := s_greatest_load) (N := n_greatest_load) (ps := ["farm", "servers"]) F sc_greatest_load (by decide) fun cdv A outer s H E hr =>
    (pss_consM (ps_ifM (pt_notM (pt_v (b_isi T.blt (po_dat (pm_var 1)) (po_dat (b_ty T.blt.ztuple PyProof.Rows.boot_tuple))))) (pss_oneM (ps_x1 c_NoServers rfl (takes_of rfl rfl rfl rfl) hr (pm_neg pm_int))) pss_nilM) (pss_consM (ps_asgM (pm_cal c_first_bad_server hr (takes_of rfl rfl rfl rfl) (pr_dat (pm_var 0) (pr_dat (pm_var 1) pr_nil))) (pg_nm 2 sc_greatest_load.nd rfl)) (pss_consM (ps_ifM (t_isn (po_dat (pm_var 2)) (po_dat pm_non)) (pss_oneM (ps_x1 c_NoServers rfl (takes_of rfl rfl rfl rfl) hr (pm_var 2))) pss_nilM) (pss_consM (ps_newM 3 sc_greatest_load.nd (pf_lst pd_nil) rfl) (pss_consM (ps_forM (passes_of rfl) rfl (pi_range1M T.blt.zrange (pm_calL T.blt c_len hr (takes_of rfl rfl rfl rfl) (pm_var 0))) (pg_nm 4 sc_greatest_load.nd rfl) (pss_oneM (ps_exprM (m_append 3 (o_ix (po_dat (o_add (po_dat (pm_of_pf (pf_lc [("server", 5)] rfl sc_greatest_load.nd (pi_seqM rfl (pm_cal c_near hr (takes_of rfl rfl rfl rfl) (pr_dat (pm_var 0) (pr_dat (pm_var 4) pr_nil)))) (blk_of (by rfl)) (by rfl) (by rfl) (fun s H C cl fp => (pg_nm 5 sc_greatest_load.nd rfl)) (fun s H C cl fp => (pts_oneM (t_in hr.units (po_dat (pm_var 5)) (po_dat (pm_var 1))))) (fun s H C cl fp => (pm_var 5))))) (po_dat (pm_of_pf (pf_lst (pd_cons pm_non pd_nil)))))) (po_dat pm_int)))))) (pss_oneM (ps_frz 3 rfl (ps_retM (pm_tup (pd_cons (b_len T.blt (po_dat (pm_of_pf (pf_lc [("server", 5)] rfl sc_greatest_load.nd (pi_seqM rfl (pm_var 3)) (blk_of (by rfl)) (by rfl) (by rfl) (fun s H C cl fp => (pg_nm 5 sc_greatest_load.nd rfl)) (fun s H C cl fp => (pts_oneM (t_isn (po_dat (pm_var 5)) (po_dat pm_non)))) (fun s H C cl fp => (pm_var 5)))))) (pd_cons (b_tuple T.blt (po_own 3)) pd_nil)))))))))))
abbrev s_law_draw : Stmt := top 22
abbrev n_law_draw : List Str := ["_law_well", "_law_limit", "_law_found", "_law_number"]
theorem sc_law_draw : FnScope n_law_draw ["_law_well", "_law_limit"] (defScope s_law_draw) := ⟨rfl, rfl, rfl, by decide +kernel, rfl, by decide +kernel, by decide +kernel⟩
def b_law_draw : MS := (mSeq (mIfS (mB (mOp2 sGt (.dat (mOp2 sIx (.own 0) (.dat (M.pure (.int 0))))) (.dat (M.pure (.int 0))))) (mSeq (mAsg (mOp2 sMod (.dat (mOp2 sIx (.own 0) (.dat (M.pure (.int 0))))) (.dat (mVar 1))) (gNm 2)) (mSeq (mSetIx 0 (M.pure (.int 0)) (mOp2 sFdiv (.dat (mOp2 sIx (.own 0) (.dat (M.pure (.int 0))))) (.dat (mVar 1)))) (mRet (mVar 2)))) mSkip) (mSeq (mSetIx 0 (M.pure (.int 2)) (mOp2 sAdd (.dat (mOp2 sIx (.own 0) (.dat (M.pure (.int 2))))) (.dat (M.pure (.int 1))))) (mSeq (mAsg (mOp2 sMod (.dat (mOp2 sMul (.dat (mOp2 sAdd (.dat (mOp2 sAdd (.dat (mOp2 sIx (.own 0) (.dat (M.pure (.int 1))))) (.dat (mOp2 sMul (.dat (M.pure (.int 104729))) (.dat (mOp2 sIx (.own 0) (.dat (M.pure (.int 2))))))))) (.dat (M.pure (.int 1))))) (.dat (M.pure (.int 48271))))) (.dat (M.pure (.int 2147483647)))) (gNm 3)) (mSeq (mAsg (mOp2 sMod (.dat (mOp2 sMul (.dat (mVar 3)) (.dat (mOp2 sAdd (.dat (mOp2 sFdiv (.dat (mVar 3)) (.dat (M.pure (.int 1009))))) (.dat (M.pure (.int 69621))))))) (.dat (M.pure (.int 2147483647)))) (gNm 3)) (mRet (mOp2 sMod (.dat (mOp2 sMod (.dat (mOp2 sMul (.dat (mVar 3)) (.dat (mOp2 sAdd (.dat (mOp2 sFdiv (.dat (mVar 3)) (.dat (M.pure (.int 2003))))) (.dat (M.pure (.int 40692))))))) (.dat (M.pure (.int 2147483399))))) (.dat (mVar 1))))))))
def m_law_draw : Fn := mkFn 4 [0] b_law_draw
theorem ok_law_draw {f : Addr} {fd : FuncData} (T : Txt K mg C0)  (F : FunD K "_law_draw" "_law_draw" (defArgs s_law_draw) (defBody s_law_draw) (defScope s_law_draw) [] [] f fd) : FnOk P w K mg base (L2.CX P w) 1 f fd ["_law_well", "_law_limit"] (spM (cfK K C0 ex) [0] 2 m_law_draw) :=
  fn_ok1 0 (P := P) (w := w) (K := K) (mg := mg) (base := base) (c := cfK K C0 ex) (k := 0) (m := b_law_draw) (st := s_law_draw) (N := n_law_draw) (ps := ["_law_well", "_law_limit"]) F sc_law_draw (by decide) (by decide) fun aR cdv A outer s H E hr =>
    (pss_consM (ps_ifM (t_gt (po_dat (o_ix (po_own 0) (po_dat pm_int))) (po_dat pm_int)) (pss_consM (ps_asgM (o_mod (po_dat (o_ix (po_own 0) (po_dat pm_int))) (po_dat (pm_var 1))) (pg_nm 2 sc_law_draw.nd rfl)) (pss_consM (ps_setIx 0 (o_fdiv (po_dat (o_ix (po_own 0) (po_dat pm_int))) (po_dat (pm_var 1))) pm_int) (pss_oneM (ps_retM (pm_var 2))))) pss_nilM) (pss_consM (ps_setIx 0 (o_add (po_dat (o_ix (po_own 0) (po_dat pm_int))) (po_dat pm_int)) pm_int) (pss_consM (ps_asgM (o_mod (po_dat (o_mul (po_dat (o_add (po_dat (o_add (po_dat (o_ix (po_own 0) (po_dat pm_int))) (po_dat (o_mul (po_dat pm_int) (po_dat (o_ix (po_own 0) (po_dat pm_int))))))) (po_dat pm_int))) (po_dat pm_int))) (po_dat pm_int)) (pg_nm 3 sc_law_draw.nd rfl)) (pss_consM (ps_asgM (o_mod (po_dat (o_mul (po_dat (pm_var 3)) (po_dat (o_add (po_dat (o_fdiv (po_dat (pm_var 3)) (po_dat pm_int))) (po_dat pm_int))))) (po_dat pm_int)) (pg_nm 3 sc_law_draw.nd rfl)) (pss_oneM (ps_retM (o_mod (po_dat (o_mod (po_dat (o_mul (po_dat (pm_var 3)) (po_dat (o_add (po_dat (o_fdiv (po_dat (pm_var 3)) (po_dat pm_int))) (po_dat pm_int))))) (po_dat pm_int))) (po_dat (pm_var 1)))))))))
abbrev s_law_shuffled : Stmt := top 23
abbrev n_law_shuffled : List Str := ["_law_well", "_law_items", "_law_left", "_law_found"]
theorem sc_law_shuffled : FnScope n_law_shuffled ["_law_well", "_law_items"] (defScope s_law_shuffled) := ⟨rfl, rfl, rfl, by decide +kernel, rfl, by decide +kernel, by decide +kernel⟩
def b_law_shuffled : MS := (mSeq (mNew (mCall sList [(.dat (mVar 1))]) 2) (mSeq (mNew (mLst []) 3) (mSeq (whileM (mB (mOp2 sNe (.own 2) (.dat (mLst [])))) (mExpr (mMethWR wAppend 3 [(mMethWR wPopAt 2 [(mCallF m_law_draw [(.own 0), (.dat (mCall sLen [(.own 2)]))])])])) 4096) (mFrz 3 (mRet (mVar 3))))))
def m_law_shuffled : Fn := mkFn 4 [0] b_law_shuffled
theorem ok_law_shuffled {f : Addr} {fd : FuncData} (T : Txt K mg C0) (c_law_draw : Cal P w K mg base (cfK K C0 ex) 1 "_law_draw" [0] 2 m_law_draw) (F : FunD K "_law_shuffled" "_law_shuffled" (defArgs s_law_shuffled) (defBody s_law_shuffled) (defScope s_law_shuffled) [] [] f fd) : FnOk P w K mg base (L2.CX P w) 2 f fd ["_law_well", "_law_items"] (spM (cfK K C0 ex) [0] 2 m_law_shuffled) :=
  fn_ok1 0 (P := P) (w := w) (K := K) (mg := mg) (base := base) (c := cfK K C0 ex) (k := 1) (m := b_law_shuffled) (st := s_law_shuffled) (N := n_law_shuffled) (ps := ["_law_well", "_law_items"]) F sc_law_shuffled (by decide) (by decide) fun aR cdv A outer s H E hr =>
    (pss_consM (ps_newM 2 sc_law_shuffled.nd (b_list T.blt (po_dat (pm_var 1))) rfl) (pss_consM (ps_newM 3 sc_law_shuffled.nd (pf_lst pd_nil) rfl) (pss_consM (ps_whileM 4096 (passes_of rfl) (t_ne hr.units (po_own 2) (po_dat (pm_of_pf (pf_lst pd_nil)))) (pss_oneM (ps_exprM (m_append 3 (m_popAt 2 (pm_cal c_law_draw hr (takes_of rfl rfl rfl rfl) (pr_own 0 (pr_dat (b_len T.blt (po_own 2)) pr_nil)))))))) (pss_oneM (ps_frz 3 rfl (ps_retM (pm_var 3)))))))
abbrev s_law_lists : Stmt := top 24
abbrev n_law_lists : List Str := ["_law_well", "_law_servers", "_law_many", "_law_one"]
theorem sc_law_lists : FnScope n_law_lists ["_law_well", "_law_servers", "_law_many"] (defScope s_law_lists) := ⟨rfl, rfl, rfl, by decide +kernel, rfl, by decide +kernel, by decide +kernel⟩
def b_law_lists : MS := (mRet (mLc (mRange1 (mVar 2)) (gNm 3) (M.pure true) (mCall sTuple [(.dat (mSl sCut (.dat (mCallF m_law_shuffled [(.own 0), (.dat (mListRg (mVar 1)))])) none (some (mOp2 sAdd (.dat (M.pure (.int 1))) (.dat (mCallF m_law_draw [(.own 0), (.dat (mVar 1))]))))))]) [3]))
def m_law_lists : Fn := mkFn 4 [0] b_law_lists
theorem ok_law_lists {f : Addr} {fd : FuncData} (T : Txt K mg C0) (c_law_shuffled : Cal P w K mg base (cfK K C0 ex) 2 "_law_shuffled" [0] 2 m_law_shuffled) (c_law_draw : Cal P w K mg base (cfK K C0 ex) 1 "_law_draw" [0] 2 m_law_draw) (F : FunD K "_law_lists" "_law_lists" (defArgs s_law_lists) (defBody s_law_lists) (defScope s_law_lists) [] [] f fd) : FnOk P w K mg base (L2.CX P w) 3 f fd ["_law_well", "_law_servers", "_law_many"] (spM (cfK K C0 ex) [0] 3 m_law_lists) :=
  fn_ok1 0 (P := P) (w := w) (K := K) (mg := mg) (base := base) (c := cfK K C0 ex) (k := 2) (m := b_law_lists) (st := s_law_lists) (N := n_law_lists) (ps := ["_law_well", "_law_servers", "_law_many"]) F sc_law_lists (by decide) (by decide) fun aR cdv A outer s H E hr =>
    (pss_oneM (ps_retM (pm_of_pf (pf_lc [("_law_one", 3)] rfl sc_law_lists.nd (pi_range1M T.blt.zrange (pm_var 2)) (blk_of (by rfl)) (by rfl) (by rfl) (fun s H C cl fp => (pg_nm 3 sc_law_lists.nd rfl)) (fun s H C cl fp => pts_nilM) (fun s H C cl fp => (b_tuple T.blt (po_dat (o_sl (po_dat (pm_cal c_law_shuffled hr takes0 (pr_own 0 (pr_dat (pm_of_pf (f_lrange T.blt rfl (pm_var 1))) pr_nil)))) pp_none (pp_some (o_add (po_dat pm_int) (po_dat (pm_cal c_law_draw hr takes0 (pr_own 0 (pr_dat (pm_var 1) pr_nil))))))))))))))
abbrev s_law_counts : Stmt := top 25
abbrev n_law_counts : List Str := ["_law_farm", "_law_near_rows", "_law_line", "_law_server"]
theorem sc_law_counts : FnScope n_law_counts ["_law_farm"] (defScope s_law_counts) := ⟨rfl, rfl, rfl, by decide +kernel, rfl, by decide +kernel, by decide +kernel⟩
def b_law_counts : MS := (mSeq (mAsg (mLc (mSeqI (mMethF m_Farm_lists "lists" (mVar 0) [])) (gNm 2) (M.pure true) (mSl sCut (.dat (mVar 2)) none (some (mOp2 sAdd (.dat (mMethF m_Farm_failures "failures" (mVar 0) [])) (.dat (M.pure (.int 1)))))) [2]) (gNm 1)) (mRet (mLc (mRange1 (mMethF m_Farm_servers "servers" (mVar 0) [])) (gNm 3) (M.pure true) (mCall sLen [(.dat (mLc (mSeqI (mVar 1)) (gNm 2) (mB (mOp2 sIn (.dat (mVar 3)) (.dat (mVar 2)))) (mVar 2) [2]))]) [3])))
def m_law_counts : Fn := mkFn 4 [] b_law_counts
theorem ok_law_counts {f : Addr} {fd : FuncData} (T : Txt K mg C0) (c_Farm_lists : CalF P w K mg base (cfK K C0 ex) 1 "lists" 1 m_Farm_lists) (c_Farm_failures : CalF P w K mg base (cfK K C0 ex) 1 "failures" 1 m_Farm_failures) (c_Farm_servers : CalF P w K mg base (cfK K C0 ex) 1 "servers" 1 m_Farm_servers) (F : FunD K "_law_counts" "_law_counts" (defArgs s_law_counts) (defBody s_law_counts) (defScope s_law_counts) [] [] f fd) : FnOk P w K mg base (L2.CX P w) 2 f fd ["_law_farm"] (spM (cfK K C0 ex) [] 1 m_law_counts) :=
  fn_ok0 (P := P) (w := w) (K := K) (mg := mg) (base := base) (c := cfK K C0 ex) (k := 1) (m := b_law_counts) (st := s_law_counts) (N := n_law_counts) (ps := ["_law_farm"]) F sc_law_counts (by decide) fun cdv A outer s H E hr =>
    (pss_consM (ps_asgM (pm_of_pf (pf_lc [("_law_line", 2)] rfl sc_law_counts.nd (pi_seqM rfl (pm_calF0 T.cls c_Farm_lists hr (takes_of rfl rfl rfl rfl) (pm_var 0))) (blk_of (by rfl)) (by rfl) (by rfl) (fun s H C cl fp => (pg_nm 2 sc_law_counts.nd rfl)) (fun s H C cl fp => pts_nilM) (fun s H C cl fp => (o_sl (po_dat (pm_var 2)) pp_none (pp_some (o_add (po_dat (pm_calF0 T.cls c_Farm_failures hr takes0 (pm_var 0))) (po_dat pm_int))))))) (pg_nm 1 sc_law_counts.nd rfl)) (pss_oneM (ps_retM (pm_of_pf (pf_lc [("_law_server", 3)] rfl sc_law_counts.nd (pi_range1M T.blt.zrange (pm_calF0 T.cls c_Farm_servers hr (takes_of rfl rfl rfl rfl) (pm_var 0))) (blk_of (by rfl)) (by rfl) (by rfl) (fun s H C cl fp => (pg_nm 3 sc_law_counts.nd rfl)) (fun s H C cl fp => pts_nilM) (fun s H C cl fp => (b_len T.blt (po_dat (pm_of_pf (pf_lc [("_law_line", 2)] rfl sc_law_counts.nd (pi_seqM rfl (pm_var 1)) (blk_of (by rfl)) (by rfl) (by rfl) (fun s H C cl fp => (pg_nm 2 sc_law_counts.nd rfl)) (fun s H C cl fp => (pts_oneM (t_in hr.units (po_dat (pm_var 3)) (po_dat (pm_var 2))))) (fun s H C cl fp => (pm_var 2))))))))))))
abbrev s_law_worst_right : Stmt := top 26
abbrev n_law_worst_right : List Str := ["_law_farm", "_law_counts_here", "_law_told", "_law_load", "_law_server"]
theorem sc_law_worst_right : FnScope n_law_worst_right ["_law_farm"] (defScope s_law_worst_right) := ⟨rfl, rfl, rfl, by decide +kernel, rfl, by decide +kernel, by decide +kernel⟩
def b_law_worst_right : MS := (mSeq (mAsg (mCallF m_law_counts [(.dat (mVar 0))]) (gNm 1)) (mSeq (mAsg (mCallF m_worst_load [(.dat (mVar 0))]) (gNm 2)) (mSeq (mIfS (mOr (mNot (mB (mCall sIsi [(.dat (mVar 2)), (.dat (M.pure (.raw (.ty "tuple"))))]))) (mB (mOp2 sNe (.dat (mVar 2)) (.dat (mTup [(mCall sMax [(.dat (mVar 1))]), (mMeth isLst sLix (.dat (mVar 1)) [(.dat (mCall sMax [(.dat (mVar 1))]))])]))))) (mRet (M.pure (.bl false))) mSkip) (mSeq (mAsg (mVar 2) (gTp [3, 4])) (mRet (mOp2 sEq (.dat (mOp2 sIx (.dat (mCallF m_greatest_load [(.dat (mVar 0)), (.dat (mTup [(mVar 4)]))])) (.dat (M.pure (.int 0))))) (.dat (mVar 3))))))))
def m_law_worst_right : Fn := mkFn 5 [] b_law_worst_right
theorem ok_law_worst_right {f : Addr} {fd : FuncData} (T : Txt K mg C0) (c_law_counts : Cal P w K mg base (cfK K C0 ex) 2 "_law_counts" [] 1 m_law_counts) (c_worst_load : Cal P w K mg base (cfK K C0 ex) 1 "worst_load" [] 1 m_worst_load) (c_greatest_load : Cal P w K mg base (cfK K C0 ex) 4 "greatest_load" [] 2 m_greatest_load) (F : FunD K "_law_worst_right" "_law_worst_right" (defArgs s_law_worst_right) (defBody s_law_worst_right) (defScope s_law_worst_right) [] [] f fd) : FnOk P w K mg base (L2.CX P w) 5 f fd ["_law_farm"] (spM (cfK K C0 ex) [] 1 m_law_worst_right) :=
  fn_ok0 (P := P) (w := w) (K := K) (mg := mg) (base := base) (c := cfK K C0 ex) (k := 4) (m := b_law_worst_right) (st := s_law_worst_right) (N := n_law_worst_right) (ps := ["_law_farm"]) F sc_law_worst_right (by decide) fun cdv A outer s H E hr =>
    (pss_consM (ps_asgM (pm_cal c_law_counts hr (takes_of rfl rfl rfl rfl) (pr_dat (pm_var 0) pr_nil)) (pg_nm 1 sc_law_worst_right.nd rfl)) (pss_consM (ps_asgM (pm_cal c_worst_load hr (takes_of rfl rfl rfl rfl) (pr_dat (pm_var 0) pr_nil)) (pg_nm 2 sc_law_worst_right.nd rfl)) (pss_consM (ps_ifM (t_or (pt_notM (pt_v (b_isi T.blt (po_dat (pm_var 2)) (po_dat (b_ty T.blt.ztuple PyProof.Rows.boot_tuple))))) (pw_and1' (t_ne hr.units (po_dat (pm_var 2)) (po_dat (pm_tup (pd_cons (b_max T.blt rfl (pa_consO (po_dat (pm_var 1)) pa_nilO)) (pd_cons (m_lindex (po_dat (pm_var 1)) (po_dat (b_max T.blt rfl (pa_consO (po_dat (pm_var 1)) pa_nilO)))) pd_nil))))))) (pss_oneM (ps_retM pm_bl)) pss_nilM) (pss_consM (ps_asgM (pm_var 2) (pg_any (pg_tpM rfl rfl (pgs_consM (pg_nm 3 sc_law_worst_right.nd rfl) (pgs_consM (pg_nm 4 sc_law_worst_right.nd rfl) pgs_nilM))))) (pss_oneM (ps_retM (o_eq hr.units (po_dat (o_ix (po_dat (pm_cal c_greatest_load hr (takes_of rfl rfl rfl rfl) (pr_dat (pm_var 0) (pr_dat (pm_tup (pd_cons (pm_var 4) pd_nil)) pr_nil)))) (po_dat pm_int))) (po_dat (pm_var 3)))))))))
abbrev s_law_fair_right : Stmt := top 27
abbrev n_law_fair_right : List Str := ["_law_servers", "_law_sessions", "_law_failures", "_law_size", "_law_due", "_law_farm", "_law_line"]
theorem sc_law_fair_right : FnScope n_law_fair_right ["_law_servers", "_law_sessions", "_law_failures"] (defScope s_law_fair_right) := ⟨rfl, rfl, rfl, by decide +kernel, rfl, by decide +kernel, by decide +kernel⟩
def b_law_fair_right : MS := (mSeq (mAsg (mOp2 sAdd (.dat (mVar 2)) (.dat (M.pure (.int 1)))) (gNm 3)) (mSeq (mAsg (mOp2 sAdd (.dat (mOp2 sFdiv (.dat (mOp2 sMul (.dat (mVar 1)) (.dat (mVar 3)))) (.dat (mVar 0)))) (.dat (mCall sInt [(.dat (mOp2 sGt (.dat (mOp2 sMod (.dat (mOp2 sMul (.dat (mVar 1)) (.dat (mVar 3)))) (.dat (mVar 0)))) (.dat (M.pure (.int 0)))))]))) (gNm 4)) (mSeq (mAsg (mCallF m_fair_farm [(.dat (mVar 0)), (.dat (mVar 1)), (.dat (mVar 2))]) (gNm 5)) (mSeq (mIfS (mB (mOp2 sNe (.dat (mTup [(mMethF m_Farm_servers "servers" (mVar 5) []), (mLenF m_Farmdd_lendd (mVar 5)), (mMethF m_Farm_failures "failures" (mVar 5) [])])) (.dat (mTup [(mVar 0), (mVar 1), (mVar 2)])))) (mRet (M.pure (.bl false))) mSkip) (mSeq (mIfS (mOr (mB (mOp2 sNe (.dat (mLc (mSeqI (mMethF m_Farm_lists "lists" (mVar 5) [])) (gNm 6) (mB (mOp2 sNe (.dat (mCall sLen [(.dat (mVar 6))])) (.dat (mVar 3)))) (mVar 6) [6])) (.dat (mLst [])))) (mB (mOp2 sNe (.dat (mOp2 sIx (.dat (mCallF m_worst_load [(.dat (mVar 5))])) (.dat (M.pure (.int 0))))) (.dat (mVar 4))))) (mRet (M.pure (.bl false))) mSkip) (mRet (mAndV (mOp2 sEq (.dat (mCallF m_least_worst_load [(.dat (mVar 0)), (.dat (mVar 1)), (.dat (mVar 2))])) (.dat (mVar 4))) (mCallF m_law_worst_right [(.dat (mVar 5))]))))))))
def m_law_fair_right : Fn := mkFn 7 [] b_law_fair_right
theorem ok_law_fair_right {f : Addr} {fd : FuncData} (T : Txt K mg C0) (c_fair_farm : Cal P w K mg base (cfK K C0 ex) 6 "fair_farm" [] 3 m_fair_farm) (c_Farm_servers : CalF P w K mg base (cfK K C0 ex) 1 "servers" 1 m_Farm_servers) (c_len : CalL P w K mg base (cfK K C0 ex) 1 m_Farmdd_lendd) (c_Farm_failures : CalF P w K mg base (cfK K C0 ex) 1 "failures" 1 m_Farm_failures) (c_Farm_lists : CalF P w K mg base (cfK K C0 ex) 1 "lists" 1 m_Farm_lists) (c_worst_load : Cal P w K mg base (cfK K C0 ex) 1 "worst_load" [] 1 m_worst_load) (c_least_worst_load : Cal P w K mg base (cfK K C0 ex) 4 "least_worst_load" [] 3 m_least_worst_load) (c_law_worst_right : Cal P w K mg base (cfK K C0 ex) 5 "_law_worst_right" [] 1 m_law_worst_right) (F : FunD K "_law_fair_right" "_law_fair_right" (defArgs s_law_fair_right) (defBody s_law_fair_right) (defScope s_law_fair_right) [] [] f fd) : FnOk P w K mg base (L2.CX P w) 7 f fd ["_law_servers", "_law_sessions", "_law_failures"] (spM (cfK K C0 ex) [] 3 m_law_fair_right) :=
  fn_ok0 (P := P) (w := w) (K := K) (mg := mg) (base := base) (c := cfK K C0 ex) (k := 6) (m := b_law_fair_right) (st := s_law_fair_right) (N := n_law_fair_right) (ps := ["_law_servers", "_law_sessions", "_law_failures"]) F sc_law_fair_right (by decide) fun cdv A outer s H E hr =>
    (pss_consM (ps_asgM (o_add (po_dat (pm_var 2)) (po_dat pm_int)) (pg_nm 3 sc_law_fair_right.nd rfl)) (pss_consM (ps_asgM (o_add (po_dat (o_fdiv (po_dat (o_mul (po_dat (pm_var 1)) (po_dat (pm_var 3)))) (po_dat (pm_var 0)))) (po_dat (b_int T.blt (po_dat (o_gt (po_dat (o_mod (po_dat (o_mul (po_dat (pm_var 1)) (po_dat (pm_var 3)))) (po_dat (pm_var 0)))) (po_dat pm_int)))))) (pg_nm 4 sc_law_fair_right.nd rfl)) (pss_consM (ps_asgM (pm_cal c_fair_farm hr (takes_of rfl rfl rfl rfl) (pr_dat (pm_var 0) (pr_dat (pm_var 1) (pr_dat (pm_var 2) pr_nil)))) (pg_nm 5 sc_law_fair_right.nd rfl)) (pss_consM (ps_ifM (t_ne hr.units (po_dat (pm_tup (pd_cons (pm_calF0 T.cls c_Farm_servers hr (takes_of rfl rfl rfl rfl) (pm_var 5)) (pd_cons (pm_calL T.blt c_len hr (takes_of rfl rfl rfl rfl) (pm_var 5)) (pd_cons (pm_calF0 T.cls c_Farm_failures hr (takes_of rfl rfl rfl rfl) (pm_var 5)) pd_nil))))) (po_dat (pm_tup (pd_cons (pm_var 0) (pd_cons (pm_var 1) (pd_cons (pm_var 2) pd_nil)))))) (pss_oneM (ps_retM pm_bl)) pss_nilM) (pss_consM (ps_ifM (t_or (t_ne hr.units (po_dat (pm_of_pf (pf_lc [("_law_line", 6)] rfl sc_law_fair_right.nd (pi_seqM rfl (pm_calF0 T.cls c_Farm_lists hr (takes_of rfl rfl rfl rfl) (pm_var 5))) (blk_of (by rfl)) (by rfl) (by rfl) (fun s H C cl fp => (pg_nm 6 sc_law_fair_right.nd rfl)) (fun s H C cl fp => (pts_oneM (t_ne hr.units (po_dat (b_len T.blt (po_dat (pm_var 6)))) (po_dat (pm_var 3))))) (fun s H C cl fp => (pm_var 6))))) (po_dat (pm_of_pf (pf_lst pd_nil)))) (pw_and1' (t_ne hr.units (po_dat (o_ix (po_dat (pm_cal c_worst_load hr (takes_of rfl rfl rfl rfl) (pr_dat (pm_var 5) pr_nil))) (po_dat pm_int))) (po_dat (pm_var 4))))) (pss_oneM (ps_retM pm_bl)) pss_nilM) (pss_oneM (ps_retM (pm_andV (o_eq hr.units (po_dat (pm_cal c_least_worst_load hr (takes_of rfl rfl rfl rfl) (pr_dat (pm_var 0) (pr_dat (pm_var 1) (pr_dat (pm_var 2) pr_nil))))) (po_dat (pm_var 4))) (pm_oneV (pm_cal c_law_worst_right hr (takes_of rfl rfl rfl rfl) (pr_dat (pm_var 5) pr_nil)))))))))))
abbrev s_law_choices : Stmt := top 28
abbrev n_law_choices : List Str := ["_law_servers", "_law_size", "_law_found", "_law_turn", "_law_longer", "_law_line", "_law_server"]
theorem sc_law_choices : FnScope n_law_choices ["_law_servers", "_law_size"] (defScope s_law_choices) := ⟨rfl, rfl, rfl, by decide +kernel, rfl, by decide +kernel, by decide +kernel⟩
def b_law_choices : MS := (mSeq (mAsg (mLst [(mTup [])]) (gNm 2)) (mSeq (mFor (mRange1 (mVar 1)) (gNm 3) (mSeq (mNew (mLst []) 4) (mSeq (mFor (mSeqI (mVar 2)) (gNm 5) (mExpr (mMethW wExtend 4 [(.dat (mLc (mRange1 (mVar 0)) (gNm 6) (mOr (mB (mOp2 sEq (.dat (mVar 5)) (.dat (mTup [])))) (mB (mOp2 sGt (.dat (mVar 6)) (.dat (mOp2 sIx (.dat (mVar 5)) (.dat (mNeg (M.pure (.int 1))))))))) (mOp2 sAdd (.dat (mVar 5)) (.dat (mTup [(mVar 6)]))) [6]))]))) (mFrz 4 (mAsg (mVar 4) (gNm 2)))))) (mRet (mVar 2))))
def m_law_choices : Fn := mkFn 7 [] b_law_choices
theorem ok_law_choices {f : Addr} {fd : FuncData} (T : Txt K mg C0)  (F : FunD K "_law_choices" "_law_choices" (defArgs s_law_choices) (defBody s_law_choices) (defScope s_law_choices) [] [] f fd) : FnOk P w K mg base (L2.CX P w) 1 f fd ["_law_servers", "_law_size"] (spM (cfK K C0 ex) [] 2 m_law_choices) :=
  fn_ok0 (P := P) (w := w) (K := K) (mg := mg) (base := base) (c := cfK K C0 ex) (k := 0) (m := b_law_choices) (st := s_law_choices) (N := n_law_choices) (ps := ["_law_servers", "_law_size"]) F sc_law_choices (by decide) fun cdv A outer s H E hr =>
    (pss_consM (ps_asgM (pm_of_pf (pf_lst (pd_cons (pm_tup pd_nil) pd_nil))) (pg_nm 2 sc_law_choices.nd rfl)) (pss_consM (ps_forM (passes_of rfl) rfl (pi_range1M T.blt.zrange (pm_var 1)) (pg_nm 3 sc_law_choices.nd rfl) (pss_consM (ps_newM 4 sc_law_choices.nd (pf_lst pd_nil) rfl) (pss_consM (ps_forM (passes_of rfl) rfl (pi_seqM rfl (pm_var 2)) (pg_nm 5 sc_law_choices.nd rfl) (pss_oneM (ps_exprM (m_extend 4 (po_dat (pm_of_pf (pf_lc [("_law_server", 6)] rfl sc_law_choices.nd (pi_range1M T.blt.zrange (pm_var 0)) (blk_of (by rfl)) (by rfl) (by rfl) (fun s H C cl fp => (pg_nm 6 sc_law_choices.nd rfl)) (fun s H C cl fp => (pts_oneM (t_or (t_eq hr.units (po_dat (pm_var 5)) (po_dat (pm_tup pd_nil))) (pw_and1' (t_gt (po_dat (pm_var 6)) (po_dat (o_ix (po_dat (pm_var 5)) (po_dat (pm_neg pm_int))))))))) (fun s H C cl fp => (o_add (po_dat (pm_var 5)) (po_dat (pm_tup (pd_cons (pm_var 6) pd_nil)))))))))))) (pss_oneM (ps_frz 4 rfl (ps_asgM (pm_var 4) (pg_nm 2 sc_law_choices.nd rfl))))))) (pss_oneM (ps_retM (pm_var 2)))))
abbrev s_law_least : Stmt := top 29
abbrev n_law_least : List Str := ["_law_servers", "_law_sessions", "_law_failures", "_law_rows_so", "_law_turn", "_law_longer", "_law_some", "_law_line"]
theorem sc_law_least : FnScope n_law_least ["_law_servers", "_law_sessions", "_law_failures"] (defScope s_law_least) := ⟨rfl, rfl, rfl, by decide +kernel, rfl, by decide +kernel, by decide +kernel⟩
def b_law_least : MS := (mSeq (mAsg (mLst [(mLst [])]) (gNm 3)) (mSeq (mFor (mRange1 (mVar 1)) (gNm 4) (mSeq (mNew (mLst []) 5) (mSeq (mFor (mSeqI (mVar 3)) (gNm 6) (mExpr (mMethW wExtend 5 [(.dat (mLc (mSeqI (mCallF m_law_choices [(.dat (mVar 0)), (.dat (mOp2 sAdd (.dat (mVar 2)) (.dat (M.pure (.int 1)))))])) (gNm 7) (M.pure true) (mOp2 sAdd (.dat (mVar 6)) (.dat (mLst [(mVar 7)]))) [7]))]))) (mFrz 5 (mAsg (mVar 5) (gNm 3)))))) (mRet (mCall sMin [(.dat (mLc (mSeqI (mVar 3)) (gNm 6) (M.pure true) (mCall sMax [(.dat (mCallF m_law_counts [(.dat (mMake m_Farmdd_initdd [(mVar 0), (mVar 6), (mVar 2)]))]))]) [6]))]))))
def m_law_least : Fn := mkFn 8 [] b_law_least
theorem ok_law_least {f : Addr} {fd : FuncData} (T : Txt K mg C0) (c_law_choices : Cal P w K mg base (cfK K C0 ex) 1 "_law_choices" [] 2 m_law_choices) (c_law_counts : Cal P w K mg base (cfK K C0 ex) 2 "_law_counts" [] 1 m_law_counts) (c_Farm : CalM P w K mg base (cfK K C0 ex) 4 "Farm" 4 m_Farmdd_initdd) (F : FunD K "_law_least" "_law_least" (defArgs s_law_least) (defBody s_law_least) (defScope s_law_least) [] [] f fd) : FnOk P w K mg base (L2.CX P w) 6 f fd ["_law_servers", "_law_sessions", "_law_failures"] (spM (cfK K C0 ex) [] 3 m_law_least) :=
  fn_ok0 (P := P) (w := w) (K := K) (mg := mg) (base := base) (c := cfK K C0 ex) (k := 5) (m := b_law_least) (st := s_law_least) (N := n_law_least) (ps := ["_law_servers", "_law_sessions", "_law_failures"]) F sc_law_least (by decide) fun cdv A outer s H E hr =>
    (pss_consM (ps_asgM (pm_of_pf (pf_lst (pd_cons (pm_of_pf (pf_lst pd_nil)) pd_nil))) (pg_nm 3 sc_law_least.nd rfl)) (pss_consM (ps_forM (passes_of rfl) rfl (pi_range1M T.blt.zrange (pm_var 1)) (pg_nm 4 sc_law_least.nd rfl) (pss_consM (ps_newM 5 sc_law_least.nd (pf_lst pd_nil) rfl) (pss_consM (ps_forM (passes_of rfl) rfl (pi_seqM rfl (pm_var 3)) (pg_nm 6 sc_law_least.nd rfl) (pss_oneM (ps_exprM (m_extend 5 (po_dat (pm_of_pf (pf_lc [("_law_line", 7)] rfl sc_law_least.nd (pi_seqM rfl (pm_cal c_law_choices hr (takes_of rfl rfl rfl rfl) (pr_dat (pm_var 0) (pr_dat (o_add (po_dat (pm_var 2)) (po_dat pm_int)) pr_nil)))) (blk_of (by rfl)) (by rfl) (by rfl) (fun s H C cl fp => (pg_nm 7 sc_law_least.nd rfl)) (fun s H C cl fp => pts_nilM) (fun s H C cl fp => (o_add (po_dat (pm_var 6)) (po_dat (pm_of_pf (pf_lst (pd_cons (pm_var 7) pd_nil))))))))))))) (pss_oneM (ps_frz 5 rfl (ps_asgM (pm_var 5) (pg_nm 3 sc_law_least.nd rfl))))))) (pss_oneM (ps_retM (b_min T.blt rfl (pa_consO (po_dat (pm_of_pf (pf_lc [("_law_some", 6)] rfl sc_law_least.nd (pi_seqM rfl (pm_var 3)) (blk_of (by rfl)) (by rfl) (by rfl) (fun s H C cl fp => (pg_nm 6 sc_law_least.nd rfl)) (fun s H C cl fp => pts_nilM) (fun s H C cl fp => (b_max T.blt rfl (pa_consO (po_dat (pm_cal c_law_counts hr takes0 (pr_dat (pm_calM c_Farm hr takes0 (pd_cons (pm_var 0) (pd_cons (pm_var 6) (pd_cons (pm_var 2) pd_nil)))) pr_nil))) pa_nilO)))))) pa_nilO))))))
abbrev s_law_right : Stmt := top 30
abbrev n_law_right : List Str := ["_law_well", "_law_k", "_law_servers", "_law_sessions", "_law_failures", "_law_lists_here"]
theorem sc_law_right : FnScope n_law_right ["_law_well", "_law_k"] (defScope s_law_right) := ⟨rfl, rfl, rfl, by decide +kernel, rfl, by decide +kernel, by decide +kernel⟩
def b_law_right : MS := (mSeq (mAsg (mOp2 sAdd (.dat (M.pure (.int 1))) (.dat (mCallF m_law_draw [(.own 0), (.dat (mOp2 sIx (.dat (mLst [(M.pure (.int 5)), (M.pure (.int 30))])) (.dat (mCallF m_law_draw [(.own 0), (.dat (M.pure (.int 2)))]))))]))) (gNm 2)) (mSeq (mPar (mCallF m_law_draw [(.own 0), (.dat (mOp2 sIx (.dat (mLst [(M.pure (.int 7)), (M.pure (.int 61))])) (.dat (mCallF m_law_draw [(.own 0), (.dat (M.pure (.int 2)))]))))]) (mCallF m_law_draw [(.own 0), (.dat (mVar 2))]) 3 4) (mSeq (mIfS (mNot (mB (mCallF m_law_fair_right [(.dat (mVar 2)), (.dat (mVar 3)), (.dat (mVar 4))]))) (mRet (M.pure (.bl false))) mSkip) (mSeq (mAsg (mOp2 sAdd (.dat (M.pure (.int 1))) (.dat (mCallF m_law_draw [(.own 0), (.dat (M.pure (.int 3)))]))) (gNm 2)) (mSeq (mPar (mCallF m_law_draw [(.own 0), (.dat (M.pure (.int 4)))]) (mCallF m_law_draw [(.own 0), (.dat (mVar 2))]) 3 4) (mSeq (mIfS (mB (mOp2 sNe (.dat (mCallF m_law_least [(.dat (mVar 2)), (.dat (mVar 3)), (.dat (mVar 4))])) (.dat (mCallF m_least_worst_load [(.dat (mVar 2)), (.dat (mVar 3)), (.dat (mVar 4))])))) (mRet (M.pure (.bl false))) mSkip) (mSeq (mAsg (mOp2 sAdd (.dat (M.pure (.int 1))) (.dat (mCallF m_law_draw [(.own 0), (.dat (mOp2 sIx (.dat (mLst [(M.pure (.int 9)), (M.pure (.int 30))])) (.dat (mCallF m_law_draw [(.own 0), (.dat (M.pure (.int 2)))]))))]))) (gNm 2)) (mSeq (mAsg (mCallF m_law_lists [(.own 0), (.dat (mVar 2)), (.dat (mCallF m_law_draw [(.own 0), (.dat (M.pure (.int 9)))]))]) (gNm 5)) (mRet (mCallF m_law_worst_right [(.dat (mMake m_Farmdd_initdd [(mVar 2), (mVar 5), (mCallF m_law_draw [(.own 0), (.dat (mOp2 sAdd (.dat (mVar 2)) (.dat (M.pure (.int 1)))))])]))]))))))))))
def m_law_right : Fn := mkFn 6 [0] b_law_right
theorem ok_law_right {f : Addr} {fd : FuncData} (T : Txt K mg C0) (c_law_draw : Cal P w K mg base (cfK K C0 ex) 1 "_law_draw" [0] 2 m_law_draw) (c_law_fair_right : Cal P w K mg base (cfK K C0 ex) 7 "_law_fair_right" [] 3 m_law_fair_right) (c_law_least : Cal P w K mg base (cfK K C0 ex) 6 "_law_least" [] 3 m_law_least) (c_least_worst_load : Cal P w K mg base (cfK K C0 ex) 4 "least_worst_load" [] 3 m_least_worst_load) (c_law_lists : Cal P w K mg base (cfK K C0 ex) 3 "_law_lists" [0] 3 m_law_lists) (c_law_worst_right : Cal P w K mg base (cfK K C0 ex) 5 "_law_worst_right" [] 1 m_law_worst_right) (c_Farm : CalM P w K mg base (cfK K C0 ex) 4 "Farm" 4 m_Farmdd_initdd) (F : FunD K "_law_right" "_law_right" (defArgs s_law_right) (defBody s_law_right) (defScope s_law_right) [] [] f fd) : FnOk P w K mg base (L2.CX P w) 8 f fd ["_law_well", "_law_k"] (spM (cfK K C0 ex) [0] 2 m_law_right) :=
  fn_ok1 0 (P := P) (w := w) (K := K) (mg := mg) (base := base) (c := cfK K C0 ex) (k := 7) (m := b_law_right) (st := s_law_right) (N := n_law_right) (ps := ["_law_well", "_law_k"]) F sc_law_right (by decide) (by decide) fun aR cdv A outer s H E hr =>
    (pss_consM (ps_asgM (o_add (po_dat pm_int) (po_dat (pm_cal c_law_draw hr (takes_of rfl rfl rfl rfl) (pr_own 0 (pr_dat (o_ix (po_dat (pm_of_pf (pf_lst (pd_cons pm_int (pd_cons pm_int pd_nil))))) (po_dat (pm_cal c_law_draw hr (takes_of rfl rfl rfl rfl) (pr_own 0 (pr_dat pm_int pr_nil))))) pr_nil))))) (pg_nm 2 sc_law_right.nd rfl)) (pss_consM (ps_parM 3 4 rfl sc_law_right.nd rfl rfl (pm_cal c_law_draw hr (takes_of rfl rfl rfl rfl) (pr_own 0 (pr_dat (o_ix (po_dat (pm_of_pf (pf_lst (pd_cons pm_int (pd_cons pm_int pd_nil))))) (po_dat (pm_cal c_law_draw hr (takes_of rfl rfl rfl rfl) (pr_own 0 (pr_dat pm_int pr_nil))))) pr_nil))) (pm_cal c_law_draw hr (takes_of rfl rfl rfl rfl) (pr_own 0 (pr_dat (pm_var 2) pr_nil)))) (pss_consM (ps_ifM (pt_notM (pt_v (pm_cal c_law_fair_right hr (takes_of rfl rfl rfl rfl) (pr_dat (pm_var 2) (pr_dat (pm_var 3) (pr_dat (pm_var 4) pr_nil)))))) (pss_oneM (ps_retM pm_bl)) pss_nilM) (pss_consM (ps_asgM (o_add (po_dat pm_int) (po_dat (pm_cal c_law_draw hr (takes_of rfl rfl rfl rfl) (pr_own 0 (pr_dat pm_int pr_nil))))) (pg_nm 2 sc_law_right.nd rfl)) (pss_consM (ps_parM 3 4 rfl sc_law_right.nd rfl rfl (pm_cal c_law_draw hr (takes_of rfl rfl rfl rfl) (pr_own 0 (pr_dat pm_int pr_nil))) (pm_cal c_law_draw hr (takes_of rfl rfl rfl rfl) (pr_own 0 (pr_dat (pm_var 2) pr_nil)))) (pss_consM (ps_ifM (t_ne hr.units (po_dat (pm_cal c_law_least hr (takes_of rfl rfl rfl rfl) (pr_dat (pm_var 2) (pr_dat (pm_var 3) (pr_dat (pm_var 4) pr_nil))))) (po_dat (pm_cal c_least_worst_load hr (takes_of rfl rfl rfl rfl) (pr_dat (pm_var 2) (pr_dat (pm_var 3) (pr_dat (pm_var 4) pr_nil)))))) (pss_oneM (ps_retM pm_bl)) pss_nilM) (pss_consM (ps_asgM (o_add (po_dat pm_int) (po_dat (pm_cal c_law_draw hr (takes_of rfl rfl rfl rfl) (pr_own 0 (pr_dat (o_ix (po_dat (pm_of_pf (pf_lst (pd_cons pm_int (pd_cons pm_int pd_nil))))) (po_dat (pm_cal c_law_draw hr (takes_of rfl rfl rfl rfl) (pr_own 0 (pr_dat pm_int pr_nil))))) pr_nil))))) (pg_nm 2 sc_law_right.nd rfl)) (pss_consM (ps_asgM (pm_cal c_law_lists hr (takes_of rfl rfl rfl rfl) (pr_own 0 (pr_dat (pm_var 2) (pr_dat (pm_cal c_law_draw hr (takes_of rfl rfl rfl rfl) (pr_own 0 (pr_dat pm_int pr_nil))) pr_nil)))) (pg_nm 5 sc_law_right.nd rfl)) (pss_oneM (ps_retM (pm_cal c_law_worst_right hr (takes_of rfl rfl rfl rfl) (pr_dat (pm_calM c_Farm hr (takes_of rfl rfl rfl rfl) (pd_cons (pm_var 2) (pd_cons (pm_var 5) (pd_cons (pm_cal c_law_draw hr (takes_of rfl rfl rfl rfl) (pr_own 0 (pr_dat (o_add (po_dat (pm_var 2)) (po_dat pm_int)) pr_nil))) pd_nil)))) pr_nil))))))))))))
abbrev s_law : Stmt := top 31
abbrev n_law : List Str := ["_law_script", "_law_k", "_law_cell"]
theorem sc_law : FnScope n_law ["_law_script"] (defScope s_law) := ⟨rfl, rfl, rfl, by decide +kernel, rfl, by decide +kernel, by decide +kernel⟩
def b_law : MS := (mSeq (mFor (mEnum (mSl sCut (.dat (mOp2 sAdd (.dat (mVar 0)) (.dat (mLst [(M.pure (.int 0))])))) none (some (M.pure (.int 6))))) (gTp [1, 2]) (mIfS (mNot (mB (mCallN m_law_right (mLst [(mOp2 sMul (.dat (mVar 2)) (.dat (mCall sInt [(.dat (mOp2 sGe (.dat (mVar 2)) (.dat (mOp2 sPow (.dat (M.pure (.int 10))) (.dat (M.pure (.int 18)))))))]))), (mOp2 sAdd (.dat (mOp2 sMod (.dat (mVar 2)) (.dat (M.pure (.int 2147483647))))) (.dat (mOp2 sMul (.dat (M.pure (.int 7919))) (.dat (mVar 1))))), (M.pure (.int 0))]) [(mVar 1)]))) (mRet (M.pure (.bl false))) mSkip)) (mRet (mAndV (mCallF m_law_fair_right [(.dat (M.pure (.int 30))), (.dat (M.pure (.int 60))), (.dat (M.pure (.int 29)))]) (mAndV (mCallF m_law_fair_right [(.dat (M.pure (.int 30))), (.dat (M.pure (.int 60))), (.dat (M.pure (.int 0)))]) (mCallF m_law_fair_right [(.dat (M.pure (.int 1))), (.dat (M.pure (.int 60))), (.dat (M.pure (.int 0)))])))))
def m_law : Fn := mkFn 3 [] b_law
theorem ok_law {f : Addr} {fd : FuncData} (T : Txt K mg C0) (c_law_right : Cal P w K mg base (cfK K C0 ex) 8 "_law_right" [0] 2 m_law_right) (c_law_fair_right : Cal P w K mg base (cfK K C0 ex) 7 "_law_fair_right" [] 3 m_law_fair_right) (F : FunD K "law" "law" (defArgs s_law) (defBody s_law) (defScope s_law) [] [] f fd) : FnOk P w K mg base (L2.CX P w) 9 f fd ["_law_script"] (spM (cfK K C0 ex) [] 1 m_law) :=
  fn_ok0 (P := P) (w := w) (K := K) (mg := mg) (base := base) (c := cfK K C0 ex) (k := 8) (m := b_law) (st := s_law) (N := n_law) (ps := ["_law_script"]) F sc_law (by decide) fun cdv A outer s H E hr =>
    (pss_consM (ps_forM (passes_of rfl) rfl (pi_enumM rfl T.blt.zenumerate (o_sl (po_dat (o_add (po_dat (pm_var 0)) (po_dat (pm_of_pf (pf_lst (pd_cons pm_int pd_nil)))))) pp_none (pp_some pm_int))) (pg_tpM rfl rfl (pgs_consM (pg_nm 1 sc_law.nd rfl) (pgs_consM (pg_nm 2 sc_law.nd rfl) pgs_nilM))) (pss_oneM (ps_ifM (pt_notM (pt_v (pm_calN c_law_right hr (takes_of rfl rfl rfl rfl) (pf_lst (pd_cons (o_mul (po_dat (pm_var 2)) (po_dat (b_int T.blt (po_dat (o_ge (po_dat (pm_var 2)) (po_dat (o_pow (po_dat pm_int) (po_dat pm_int)))))))) (pd_cons (o_add (po_dat (o_mod (po_dat (pm_var 2)) (po_dat pm_int))) (po_dat (o_mul (po_dat pm_int) (po_dat (pm_var 1))))) (pd_cons pm_int pd_nil)))) (pd_cons (pm_var 1) pd_nil)))) (pss_oneM (ps_retM pm_bl)) pss_nilM))) (pss_oneM (ps_retM (pm_andV (pm_cal c_law_fair_right hr (takes_of rfl rfl rfl rfl) (pr_dat pm_int (pr_dat pm_int (pr_dat pm_int pr_nil)))) (pm_andV (pm_cal c_law_fair_right hr (takes_of rfl rfl rfl rfl) (pr_dat pm_int (pr_dat pm_int (pr_dat pm_int pr_nil)))) (pm_oneV (pm_cal c_law_fair_right hr (takes_of rfl rfl rfl rfl) (pr_dat pm_int (pr_dat pm_int (pr_dat pm_int pr_nil))))))))))
abbrev s_Farm_row : Stmt := inClass (top 11) 6
abbrev n_Farm_row : List Str := ["self", "session"]
theorem sc_Farm_row : FnScope n_Farm_row ["self", "session"] (defScope s_Farm_row) := ⟨rfl, rfl, rfl, by decide +kernel, rfl, by decide +kernel, by decide +kernel⟩
def b_Farm_row : MS := (mSeq (mExpr (mMethF m_Farm_check_session "check_session" (mVar 0) [(mVar 1)])) (mRet (mOp2 sIx (.dat (mFld (mVar 0) "rows")) (.dat (mVar 1)))))
def m_Farm_row : Fn := mkFn 2 [] b_Farm_row
theorem ok_Farm_row {f : Addr} {fd : FuncData} (T : Txt K mg C0) (c_Farm_check_session : CalF P w K mg base (cfK K C0 ex) 3 "check_session" 2 m_Farm_check_session) (F : FunD K "row" "Farm.row" (defArgs s_Farm_row) (defBody s_Farm_row) (defScope s_Farm_row) [] [] f fd) : FnOk P w K mg base (L2.CX P w) 4 f fd ["self", "session"] (spM (cfK K C0 ex) [] 2 m_Farm_row) :=
  fn_ok0 (P := P) (w := w) (K := K) (mg := mg) (base := base) (c := cfK K C0 ex) (k := 3) (m := b_Farm_row) (st := s_Farm_row) (N := n_Farm_row) (ps := ["self", "session"]) F sc_Farm_row (by decide) fun cdv A outer s H E hr =>
    (pss_consM (ps_exprM (pm_calF T.cls c_Farm_check_session hr (takes_of rfl rfl rfl rfl) (pm_var 0) (pd_cons (pm_var 1) pd_nil))) (pss_oneM (ps_retM (o_ix (po_dat (pm_fld T.cls T.na_rows (pm_var 0))) (po_dat (pm_var 1))))))
end
end Fx
set_option Elab.async false
set_option linter.all false
set_option maxRecDepth 100000
set_option maxHeartbeats 1000000
/-! Gr: plain facts about finite relations (no program in sight). -/
namespace Fx
/-- each of S has a next one in S -/
def Cl (R : Int → Int → Prop) (S : List Int) : Prop := ∀ s ∈ S, ∃ o ∈ S, R s o
/-- no such set among l, except for the empty one -/
def NoCore (R : Int → Int → Prop) (l : List Int) : Prop := ∀ S : List Int, (∀ s ∈ S, s ∈ l) → Cl R S → S = []
theorem fun_core (f : Int → Int) : ∀ (n : Nat) (T : List Int), T.length ≤ n → T ≠ [] → (∀ t ∈ T, f t ∈ T) → ∃ T' : List Int, T' ≠ [] ∧ (∀ t ∈ T', t ∈ T) ∧ ∀ t ∈ T', ∃ s ∈ T', f s = t
  | 0, T, hl, h0, _ => absurd (List.length_eq_zero_iff.mp (by omega)) h0
  | n + 1, T, hl, h0, hf => by
    by_cases h : ∀ t ∈ T, ∃ s ∈ T, f s = t
    · exact ⟨T, h0, fun t ht => ht, h⟩
    · let T1 := T.filter fun t => T.any fun s => decide (f s = t)
      have hT1 : ∀ t, t ∈ T1 ↔ t ∈ T ∧ ∃ s ∈ T, f s = t := by
        intro t
        simp [T1, List.mem_filter]
      have hlt : T1.length < T.length := by
        have hle : T1.length ≤ T.length := List.length_filter_le _ _
        rcases Nat.lt_or_ge T1.length T.length with z | z
        · exact z
        · have e : T1.length = T.length := by omega
          have := List.length_filter_eq_length_iff.mp e
          exact absurd (fun t ht => by
            have := this t ht
            simpa using this) h
      obtain ⟨t0, ht0⟩ := List.exists_mem_of_ne_nil T h0
      have h1 : T1 ≠ [] := List.ne_nil_of_mem ((hT1 (f t0)).mpr ⟨hf t0 ht0, t0, ht0, rfl⟩)
      obtain ⟨T', q1, q2, q3⟩ := fun_core f n T1 (by omega) h1 fun t ht => (hT1 _).mpr ⟨hf t ((hT1 t).mp ht).1, t, ((hT1 t).mp ht).1, rfl⟩
      exact ⟨T', q1, fun t ht => ((hT1 t).mp (q2 t ht)).1, q3⟩
theorem Cl.turn {R : Int → Int → Prop} {S : List Int} (h : Cl R S) (h0 : S ≠ []) : ∃ T : List Int, T ≠ [] ∧ (∀ t ∈ T, t ∈ S) ∧ Cl (fun s o => R o s) T := by
  classical
  let f : Int → Int := fun s => if hs : s ∈ S then (h s hs).choose else s
  have hf : ∀ s ∈ S, f s ∈ S ∧ R s (f s) := fun s hs => by
    have : f s = (h s hs).choose := dif_pos hs
    rw [this]
    exact (h s hs).choose_spec
  obtain ⟨T, q1, q2, q3⟩ := fun_core f _ S (Nat.le_refl _) h0 fun t ht => (hf t ht).1
  refine ⟨T, q1, q2, fun t ht => ?_⟩
  obtain ⟨s, hs, e⟩ := q3 t ht
  refine ⟨s, hs, ?_⟩
  rw [← e]
  exact (hf s (q2 s hs)).2
theorem NoCore.turn {R : Int → Int → Prop} {l : List Int} (h : NoCore R l) : NoCore (fun s o => R o s) l := fun S hS hc => by
  rcases Classical.em (S = []) with z | z
  · exact z
  · obtain ⟨T, q1, q2, q3⟩ := Cl.turn hc z
    exact absurd (h T (fun t ht => hS t (q2 t ht)) q3) q1
/-- what is left holds all that can't be peeled -/
def Keeps (R : Int → Int → Prop) (M l : List Int) : Prop := (∀ s ∈ l, s ∈ M) ∧ ∀ S : List Int, (∀ s ∈ S, s ∈ M) → Cl R S → ∀ s ∈ S, s ∈ l
theorem Keeps.start {R : Int → Int → Prop} {M : List Int} : Keeps R M M := ⟨fun _ h => h, fun _ h _ => h⟩
theorem Keeps.step {R : Int → Int → Prop} {M l l' : List Int} (h : Keeps R M l) (h' : ∀ s, s ∈ l' ↔ s ∈ l ∧ ∃ o ∈ l, R s o) : Keeps R M l' := by
  refine ⟨fun s hs => h.1 s ((h' s).mp hs).1, fun S hS hc s hs => (h' s).mpr ⟨h.2 S hS hc s hs, ?_⟩⟩
  obtain ⟨o, ho, r⟩ := hc s hs
  exact ⟨o, h.2 S hS hc o ho, r⟩
theorem Keeps.empty {R : Int → Int → Prop} {M : List Int} (h : Keeps R M []) : NoCore R M := fun S hS hc => by
  cases S with
  | nil => rfl
  | cons s S => exact nomatch h.2 _ hS hc s List.mem_cons_self
theorem Keeps.full {R : Int → Int → Prop} {M l : List Int} (h : Keeps R M l) (h0 : l ≠ []) (hc : Cl R l) : ¬ NoCore R M := fun z => h0 (z l h.1 hc)
/-- pigeons -/
theorem pigeon : ∀ (l m : List Int), l.Nodup → (∀ x ∈ l, x ∈ m) → l.length ≤ m.length
  | [], m, _, _ => Nat.zero_le _
  | a :: l, m, hn, h => by
    obtain ⟨h1, h2⟩ := List.nodup_cons.mp hn
    have ha : a ∈ m := h a List.mem_cons_self
    have := pigeon l (m.erase a) h2 fun x hx => (List.mem_erase_of_ne (fun e => h1 (by rw [← e]; exact hx))).mpr (h x (List.mem_cons_of_mem _ hx))
    rw [List.length_erase_of_mem ha] at this
    have hp := List.length_pos_of_mem ha
    rw [List.length_cons]
    omega
theorem foldl_max : ∀ (l : List Int) (a : Int), (l.foldl (fun m x => if m < x then x else m) a ∈ a :: l) ∧ ∀ x ∈ a :: l, x ≤ l.foldl (fun m x => if m < x then x else m) a
  | [], a => by simp
  | b :: l, a => by
    obtain ⟨h1, h2⟩ := foldl_max l (if a < b then b else a)
    rw [List.foldl_cons]
    generalize List.foldl (fun m x => if m < x then x else m) (if a < b then b else a) l = F at h1 h2 ⊢
    refine ⟨?_, fun x hx => ?_⟩
    · rcases List.mem_cons.mp h1 with z | z
      · rw [z]
        split <;> simp
      · exact List.mem_cons_of_mem _ (List.mem_cons_of_mem _ z)
    · have h3 := h2 _ List.mem_cons_self
      rcases List.mem_cons.mp hx with z | z
      · subst z
        split at h3 <;> omega
      · rcases List.mem_cons.mp z with z | z
        · subst z
          split at h3 <;> omega
        · exact h2 x (List.mem_cons_of_mem _ z)
end Fx
set_option Elab.async false
set_option linter.all false
set_option maxRecDepth 100000
set_option maxHeartbeats 1000000
namespace Fx
open PySem L2
def rowD (r : List Int) : D := .tup (r.map .int)
def farmD (n : Int) (rows : List (List Int)) (t : Int) : D := .rcd ["many", "rows", "most"] [.int n, .tup (rows.map rowD), .int t]
theorem kit_int : kitB "int" "int" = some true := by decide
theorem kit_ib : kitB "int" "bool" = some false := by decide
theorem kit_tt : kitB "tuple" "tuple" = some true := by decide
theorem kit_ll : kitB "list" "list" = some true := by decide
theorem kit_nb : kitB "NoneType" "bool" = some false := by decide
theorem lay_ints : ∀ l : List Int, PyData.canLayAll0 (toPys (l.map .int)) = true
  | [] => by simp [toPys, PyData.canLayAll0]
  | a :: l => by simp [toPys, toPy, PyData.canLayAll0, PyData.canLay0, lay_ints l]
theorem dep_ints : ∀ l : List Int, PyData.depthAll (toPys (l.map .int)) = 0
  | [] => by simp [toPys, PyData.depthAll]
  | a :: l => by simp [toPys, toPy, PyData.depthAll, PyData.depth, dep_ints l]
theorem eqv_ints : ∀ l m : List Int, PyData.eqvAll (toPys (l.map .int)) (toPys (m.map .int)) = decide (l = m)
  | [], [] => by simp [toPys, PyData.eqvAll]
  | [], _ :: _ => by simp [toPys, PyData.eqvAll]
  | _ :: _, [] => by simp [toPys, PyData.eqvAll]
  | a :: l, b :: m => by
    simp only [List.map_cons, toPys, toPy, PyData.eqvAll, PyData.eqv, eqv_ints l m, List.cons.injEq]
    by_cases h : a = b <;> by_cases k : l = m <;> simp [h, k]
theorem sEq_tup (l m : List Int) : sEq (.tup (l.map .int)) (.tup (m.map .int)) = some (.bl (decide (l = m))) := by
  simp [sEq, plain, toPy, PyData.canLay0, lay_ints, PyData.depth, dep_ints, eqD, PyData.eqv, eqv_ints]
theorem sEq_lst (l m : List Int) : sEq (.lst (l.map .int)) (.lst (m.map .int)) = some (.bl (decide (l = m))) := by
  simp [sEq, plain, toPy, PyData.canLay0, lay_ints, PyData.depth, dep_ints, eqD, PyData.eqv, eqv_ints]
theorem sNe_lst (l m : List Int) : sNe (.lst (l.map .int)) (.lst (m.map .int)) = some (.bl (!decide (l = m))) := by
  simp [sNe, plain, toPy, PyData.canLay0, lay_ints, PyData.depth, dep_ints, eqD, PyData.eqv, eqv_ints]
theorem sEq_int (a b : Int) : sEq (.int a) (.int b) = some (.bl (decide (a = b))) := by
  simp [sEq, plain, toPy, PyData.canLay0, PyData.depth, eqD, PyData.eqv]
  rfl
theorem sNe_int (a b : Int) : sNe (.int a) (.int b) = some (.bl (!decide (a = b))) := by
  simp [sNe, plain, toPy, PyData.canLay0, PyData.depth, eqD, PyData.eqv]
  rfl
theorem eqD_int (a b : Int) : eqD (.int a) (.int b) = decide (a = b) := by
  simp [eqD, toPy, PyData.eqv]
  rfl
theorem inD_ints (a : Int) : ∀ l : List Int, inD (.int a) (l.map .int) = decide (a ∈ l)
  | [] => by simp [inD]
  | b :: l => by
    have h := inD_ints a l
    simp only [inD, List.map_cons, List.any_cons] at h ⊢
    rw [h, eqD_int]
    by_cases e : b = a
    · simp [e]
    · have e2 : ¬ a = b := fun z => e z.symm
      simp [e, e2]
theorem sIn_tup (a : Int) (l : List Int) : sIn (.int a) (.tup (l.map .int)) = some (.bl (decide (a ∈ l))) := by
  simp [sIn, itemsOf, plain, toPy, PyData.canLay0, lay_ints, dep_ints, PyData.depth, inD_ints]
theorem sIn_lst (a : Int) (l : List Int) : sIn (.int a) (.lst (l.map .int)) = some (.bl (decide (a ∈ l))) := by
  simp [sIn, itemsOf, plain, toPy, PyData.canLay0, lay_ints, dep_ints, PyData.depth, inD_ints]
theorem sNin_tup (a : Int) (l : List Int) : sNin (.int a) (.tup (l.map .int)) = some (.bl (!decide (a ∈ l))) := by
  simp [sNin, itemsOf, plain, toPy, PyData.canLay0, lay_ints, dep_ints, PyData.depth, inD_ints]
theorem sNin_lst (a : Int) (l : List Int) : sNin (.int a) (.lst (l.map .int)) = some (.bl (!decide (a ∈ l))) := by
  simp [sNin, itemsOf, plain, toPy, PyData.canLay0, lay_ints, dep_ints, PyData.depth, inD_ints]
theorem e_is_int (v : Int) : m_is_int [.int v] = .ret (.bl true) [] := by
  simp [m_is_int, b_is_int, mkFn, mSeq, mIfS, mDo, mRet, mRetN, mSkip, mExpr, mAsg, mAnd, mOr, mNot, mAndV, mOrV, mNotV, mB, mIf, mV, mNeg, mCall, mOp2, mTup, mLst, mMeth, mSl, mPart, preL, seqM, M.bind, M.pure, M.lift, M.stuck, Out.andThen, mVar, Opn.pre, Opn.rd, rdM, rdLM, rdL, cellD, initC, initAt, outsOf, outAt, gNm, gTp, gNms, mNew, mFrz, mPar, mFld, mCallF, mCallK, mCallN, appF, rdA, setOuts, ownSlots, ownPos, mSeqI, mEnum, mRange1, itemsOf, sIsi, tyName, kit_int, kit_ib]
theorem e_is_from (v lo hi : Int) : m_is_from [.int v, .int lo, .int hi] = .ret (.bl (decide (lo ≤ v) && decide (v ≤ hi))) [] := by
  by_cases h1 : lo ≤ v <;> simp [m_is_from, b_is_from, mkFn, mSeq, mIfS, mDo, mRet, mRetN, mSkip, mExpr, mAsg, mAnd, mOr, mNot, mAndV, mOrV, mNotV, mB, mIf, mV, mNeg, mCall, mOp2, mTup, mLst, mMeth, mSl, mPart, preL, seqM, M.bind, M.pure, M.lift, M.stuck, Out.andThen, mVar, Opn.pre, Opn.rd, rdM, rdLM, rdL, cellD, initC, initAt, outsOf, outAt, gNm, gTp, gNms, mNew, mFrz, mPar, mFld, mCallF, mCallK, mCallN, appF, rdA, setOuts, ownSlots, ownPos, mSeqI, mEnum, mRange1, itemsOf, e_is_int, mChain, sLe, h1]
theorem lk_many {a b d : D} : List.lookup ("many" : Str) [(("many" : Str), a), (("rows" : Str), b), (("most" : Str), d)] = some a := by rfl
theorem lk_rows {a b d : D} : List.lookup ("rows" : Str) [(("many" : Str), a), (("rows" : Str), b), (("most" : Str), d)] = some b := by
  have h : (("rows" : Str) == ("many" : Str)) = false := by decide
  simp [List.lookup, h]
theorem lk_most {a b d : D} : List.lookup ("most" : Str) [(("many" : Str), a), (("rows" : Str), b), (("most" : Str), d)] = some d := by
  have h : (("most" : Str) == ("many" : Str)) = false := by decide
  have h2 : (("most" : Str) == ("rows" : Str)) = false := by decide
  simp [List.lookup, h, h2]
theorem e_len (n : Int) (rows : List (List Int)) (t : Int) : m_Farmdd_lendd [farmD n rows t] = .ret (.int rows.length) [] := by
  simp [m_Farmdd_lendd, b_Farmdd_lendd, mkFn, mSeq, mIfS, mDo, mRet, mRetN, mSkip, mExpr, mAsg, mAnd, mOr, mNot, mAndV, mOrV, mNotV, mB, mIf, mV, mNeg, mCall, mOp2, mTup, mLst, mMeth, mSl, mPart, preL, seqM, M.bind, M.pure, M.lift, M.stuck, Out.andThen, mVar, Opn.pre, Opn.rd, rdM, rdLM, rdL, cellD, initC, initAt, outsOf, outAt, gNm, gTp, gNms, mNew, mFrz, mPar, mFld, mCallF, mCallK, mCallN, appF, rdA, setOuts, ownSlots, ownPos, mSeqI, mEnum, mRange1, itemsOf, farmD, sLen, lk_rows]
theorem e_lists (n : Int) (rows : List (List Int)) (t : Int) : m_Farm_lists [farmD n rows t] = .ret (.lst (rows.map rowD)) [] := by
  simp [m_Farm_lists, b_Farm_lists, mkFn, mSeq, mIfS, mDo, mRet, mRetN, mSkip, mExpr, mAsg, mAnd, mOr, mNot, mAndV, mOrV, mNotV, mB, mIf, mV, mNeg, mCall, mOp2, mTup, mLst, mMeth, mSl, mPart, preL, seqM, M.bind, M.pure, M.lift, M.stuck, Out.andThen, mVar, Opn.pre, Opn.rd, rdM, rdLM, rdL, cellD, initC, initAt, outsOf, outAt, gNm, gTp, gNms, mNew, mFrz, mPar, mFld, mCallF, mCallK, mCallN, appF, rdA, setOuts, ownSlots, ownPos, mSeqI, mEnum, mRange1, itemsOf, farmD, sList, lk_rows]
theorem intsOf_map' (l : List Int) : intsOf (l.map .int) = some l := intsOf_map l
theorem dedup_nodup : ∀ {l : List Int}, l.Nodup → dedupI l = l
  | [], _ => rfl
  | a :: l, h => by
    obtain ⟨h1, h2⟩ := List.nodup_cons.mp h
    unfold dedupI
    rw [if_neg (by simpa using h1), dedup_nodup h2]
theorem blsOf_map : ∀ l : List Bool, blsOf (l.map .bl) = some l
  | [] => rfl
  | b :: l => by simp [blsOf, blsOf_map l]
theorem e_is_row {n : Int} {r : List Int} (h0 : r ≠ []) (h1 : ∀ v ∈ r, 0 ≤ v ∧ v < n) (hn : r.Nodup) (hl : r.length ≤ 4000) : m_is_row [rowD r, .int n] = .ret (.bl true) [] := by
  have e1 : mLc (mSeqI (mVar 0)) (gNm 2) (M.pure true) (mCallF m_is_from [(.dat (mVar 2)), (.dat (M.pure (.int 0))), (.dat (mOp2 sSub (.dat (mVar 1)) (.dat (M.pure (.int 1)))))]) [2] [.dat (rowD r), .dat (.int n), .no] = .ok (.lst (r.map fun _ => .bl true)) [.dat (rowD r), .dat (.int n), .no] := by
    have := mLc_pure (fi := mSeqI (mVar 0)) (g := gNm 2) (tt := M.pure true) (fe := mCallF m_is_from [(.dat (mVar 2)), (.dat (M.pure (.int 0))), (.dat (mOp2 sSub (.dat (mVar 1)) (.dat (M.pure (.int 1)))))]) (vs := [2]) (ρ := [.dat (rowD r), .dat (.int n), .no]) (ds := r.map .int) (fun _ => true) (fun _ => .bl true) (by simp [mkFn, mSeq, mIfS, mDo, mRet, mRetN, mSkip, mExpr, mAsg, mAnd, mOr, mNot, mAndV, mOrV, mNotV, mB, mIf, mV, mNeg, mCall, mOp2, mTup, mLst, mMeth, mSl, mPart, preL, seqM, M.bind, M.pure, M.lift, M.stuck, Out.andThen, mVar, Opn.pre, Opn.rd, rdM, rdLM, rdL, cellD, initC, initAt, outsOf, outAt, gNm, gTp, gNms, mNew, mFrz, mPar, mFld, mCallF, mCallK, mCallN, appF, rdA, setOuts, ownSlots, ownPos, mSeqI, mEnum, mRange1, itemsOf, rowD]) (by simp [isOwn]) (fun d hd => by
      obtain ⟨v, hv, rfl⟩ := List.mem_map.mp hd
      obtain ⟨q1, q2⟩ := h1 v hv
      have q3 : v ≤ n - 1 := by omega
      refine ⟨[.dat (rowD r), .dat (.int n), .dat (.int v)], by simp [gNm, wipeC], by simp [M.pure], fun _ => ?_, by simp [wipeC]⟩
      simp [mkFn, mSeq, mIfS, mDo, mRet, mRetN, mSkip, mExpr, mAsg, mAnd, mOr, mNot, mAndV, mOrV, mNotV, mB, mIf, mV, mNeg, mCall, mOp2, mTup, mLst, mMeth, mSl, mPart, preL, seqM, M.bind, M.pure, M.lift, M.stuck, Out.andThen, mVar, Opn.pre, Opn.rd, rdM, rdLM, rdL, cellD, initC, initAt, outsOf, outAt, gNm, gTp, gNms, mNew, mFrz, mPar, mFld, mCallF, mCallK, mCallN, appF, rdA, setOuts, ownSlots, ownPos, mSeqI, mEnum, mRange1, itemsOf, sSub, e_is_from, q1, q3])
    rw [this, List.filter_eq_self.mpr (fun _ _ => rfl), List.map_map]
    rfl
  have e2 : sEq (rowD r) (.tup []) = some (.bl false) := by
    have := sEq_tup r []
    rw [decide_eq_false h0] at this
    exact this
  have e3 : blsOf (r.map fun _ => D.bl true) = some (r.map fun _ => true) := by
    have := blsOf_map (r.map fun _ => true)
    rwa [List.map_map] at this
  have e4 : sAll [D.lst (r.map fun _ => D.bl true)] = some (.bl true) := by
    simp [sAll, e3]
  have e5 : sLenSet (rowD r) = some (.int r.length) := by
    simp [sLenSet, rowD, intsOf_map, hl, dedup_nodup hn]
  have e6 : tyName (rowD r) = some "tuple" := rfl
  have e7 : sLen [rowD r] = some (.int r.length) := by simp [sLen, rowD]
  simp [m_is_row, b_is_row, mkFn, mSeq, mIfS, mDo, mRet, mRetN, mSkip, mExpr, mAsg, mAnd, mOr, mNot, mAndV, mOrV, mNotV, mB, mIf, mV, mNeg, mCall, mOp2, mTup, mLst, mMeth, mSl, mPart, preL, seqM, M.bind, M.pure, M.lift, M.stuck, Out.andThen, mVar, Opn.pre, Opn.rd, rdM, rdLM, rdL, cellD, initC, initAt, outsOf, outAt, gNm, gTp, gNms, mNew, mFrz, mPar, mFld, mCallF, mCallK, mCallN, appF, rdA, setOuts, ownSlots, ownPos, mSeqI, mEnum, mRange1, itemsOf, sIsi, e6, kit_tt, e2]
  simp [mkFn, mSeq, mIfS, mDo, mRet, mRetN, mSkip, mExpr, mAsg, mAnd, mOr, mNot, mAndV, mOrV, mNotV, mB, mIf, mV, mNeg, mCall, mOp2, mTup, mLst, mMeth, mSl, mPart, preL, seqM, M.bind, M.pure, M.lift, M.stuck, Out.andThen, mVar, Opn.pre, Opn.rd, rdM, rdLM, rdL, cellD, initC, initAt, outsOf, outAt, gNm, gTp, gNms, mNew, mFrz, mPar, mFld, mCallF, mCallK, mCallN, appF, rdA, setOuts, ownSlots, ownPos, mSeqI, mEnum, mRange1, itemsOf] at e1
  simp [e1, e4, mLenSet, mkFn, mSeq, mIfS, mDo, mRet, mRetN, mSkip, mExpr, mAsg, mAnd, mOr, mNot, mAndV, mOrV, mNotV, mB, mIf, mV, mNeg, mCall, mOp2, mTup, mLst, mMeth, mSl, mPart, preL, seqM, M.bind, M.pure, M.lift, M.stuck, Out.andThen, mVar, Opn.pre, Opn.rd, rdM, rdLM, rdL, cellD, initC, initAt, outsOf, outAt, gNm, gTp, gNms, mNew, mFrz, mPar, mFld, mCallF, mCallK, mCallN, appF, rdA, setOuts, ownSlots, ownPos, mSeqI, mEnum, mRange1, itemsOf, e5, e7, sEq_int]
theorem mSeq_next {m n : MS} {ρ ρ' : Cells} (h : m ρ = .next ρ') : mSeq m n ρ = n ρ' := by simp [mSeq, h]
theorem mSeq_ret {m n : MS} {ρ ρ' : Cells} {d : D} (h : m ρ = .ret d ρ') : mSeq m n ρ = .ret d ρ' := by simp [mSeq, h]
theorem mkFn_next {k : Nat} {bs : List Nat} {m : MS} {ds : List D} {ρ : Cells} (h : m (initC k bs ds) = .next ρ) : mkFn k bs m ds = .ret .non (outsOf bs ρ) := by simp [mkFn, h]
theorem mkFn_ret {k : Nat} {bs : List Nat} {m : MS} {ds : List D} {ρ : Cells} {d : D} (h : m (initC k bs ds) = .ret d ρ) : mkFn k bs m ds = .ret d (outsOf bs ρ) := by simp [mkFn, h]
theorem mIfS_f {t : M Bool} {m n : MS} {ρ ρ' : Cells} (h : t ρ = .ok false ρ') : mIfS t m n ρ = n ρ' := by simp [mIfS, mDo, h]
theorem mIfS_t {t : M Bool} {m n : MS} {ρ ρ' : Cells} (h : t ρ = .ok true ρ') : mIfS t m n ρ = m ρ' := by simp [mIfS, mDo, h]
theorem mFor_next {fi : M (List D)} {g : TgM} {b : MS} {ρ ρ1 : Cells} {ds : List D} (h : fi ρ = .ok ds ρ1) : mFor fi g b ρ = loopM g b ds ρ1 := by simp [mFor, mDo, h]
theorem enumD_inv : ∀ (n i : Nat) (ds : List D) (e : D), (enumD n ds)[i]? = some e → ∃ d, ds[i]? = some d ∧ e = .tup [.int ((n + i : Nat) : Int), d]
  | n, i, [], e, h => by simp [enumD] at h
  | n, 0, d :: ds, e, h => by
    simp [enumD] at h
    exact ⟨d, rfl, by rw [← h]; rfl⟩
  | n, i + 1, d :: ds, e, h => by
    obtain ⟨x, h1, h2⟩ := enumD_inv (n + 1) i ds e (by simpa [enumD] using h)
    exact ⟨x, by simpa using h1, by rw [h2, show n + 1 + i = n + (i + 1) by omega]⟩
def RowOk (n : Int) (r : List Int) : Prop := r ≠ [] ∧ (∀ v ∈ r, 0 ≤ v ∧ v < n) ∧ r.Nodup ∧ r.length ≤ 4000
theorem e_is_row' {n : Int} {r : List Int} (h : RowOk n r) : m_is_row [rowD r, .int n] = .ret (.bl true) [] := e_is_row h.1 h.2.1 h.2.2.1 h.2.2.2
theorem e_make {n t : Int} {rows : List (List Int)} (h1 : 1 ≤ n) (h2 : n ≤ 30) (h3 : rows.length ≤ 60) (h4 : ∀ r ∈ rows, RowOk n r) (h5 : 0 ≤ t) (h6 : t ≤ n) :
    m_Farmdd_initdd [.rcd [] [], .int n, .lst (rows.map rowD), .int t] = .ret .non [farmD n rows t] := by
  have e0 : initC 6 [0] [.rcd [] [], .int n, .lst (rows.map rowD), .int t] = [.own (.rcd [] []), .dat (.int n), .dat (.lst (rows.map rowD)), .dat (.int t), .no, .no] := by rfl
  obtain ⟨ρ', e1, x, y, e2⟩ := loop_inv (g := gTp [4, 5]) (body := mIfS (mNot (mB (mCallF m_is_row [(.dat (mVar 5)), (.dat (mVar 1))]))) (mRaise 0 [(M.pure (.str "lists")), (mVar 4)]) mSkip)
    (fun _ ρ => ∃ x y, ρ = [.own (.rcd [] []), .dat (.int n), .dat (.lst (rows.map rowD)), .dat (.int t), x, y]) (enumD 0 (rows.map rowD)) 0 _ ⟨.no, .no, rfl⟩ (fun i d ρ hd ⟨x, y, e⟩ => by
      obtain ⟨d', h7, rfl⟩ := enumD_inv 0 i _ _ hd
      rw [List.getElem?_map] at h7
      cases hr : rows[i]? with
      | none => rw [hr] at h7; cases h7
      | some r =>
        rw [hr] at h7
        cases h7
        have q := e_is_row' (h4 r (List.mem_of_getElem? hr))
        subst e
        refine ⟨[.own (.rcd [] []), .dat (.int n), .dat (.lst (rows.map rowD)), .dat (.int t), .dat (.int ((0 + i : Nat) : Int)), .dat (rowD r)], by simp [gTp, gNms], [.own (.rcd [] []), .dat (.int n), .dat (.lst (rows.map rowD)), .dat (.int t), .dat (.int ((0 + i : Nat) : Int)), .dat (rowD r)], by simp [mkFn, mSeq, mIfS, mDo, mRet, mRetN, mSkip, mExpr, mAsg, mAnd, mOr, mNot, mAndV, mOrV, mNotV, mB, mIf, mV, mNeg, mCall, mOp2, mTup, mLst, mMeth, mSl, mPart, preL, seqM, M.bind, M.pure, M.lift, M.stuck, Out.andThen, mVar, Opn.pre, Opn.rd, rdM, rdLM, rdL, cellD, initC, initAt, outsOf, outAt, gNm, gTp, gNms, mNew, mFrz, mPar, mFld, mCallF, mCallK, mCallN, appF, rdA, setOuts, ownSlots, ownPos, mSeqI, mEnum, mRange1, itemsOf, q], _, _, rfl⟩)
  subst e2
  have e3 : b_Farmdd_initdd (initC 6 [0] [.rcd [] [], .int n, .lst (rows.map rowD), .int t]) = .next [.own (farmD n rows t), .dat (.int n), .dat (.lst (rows.map rowD)), .dat (.int t), x, y] := by
    rw [e0]
    unfold b_Farmdd_initdd
    rw [mSeq_next (ρ' := [.own (.rcd [] []), .dat (.int n), .dat (.lst (rows.map rowD)), .dat (.int t), .no, .no]) (by simp [mkFn, mSeq, mIfS, mDo, mRet, mRetN, mSkip, mExpr, mAsg, mAnd, mOr, mNot, mAndV, mOrV, mNotV, mB, mIf, mV, mNeg, mCall, mOp2, mTup, mLst, mMeth, mSl, mPart, preL, seqM, M.bind, M.pure, M.lift, M.stuck, Out.andThen, mVar, Opn.pre, Opn.rd, rdM, rdLM, rdL, cellD, initC, initAt, outsOf, outAt, gNm, gTp, gNms, mNew, mFrz, mPar, mFld, mCallF, mCallK, mCallN, appF, rdA, setOuts, ownSlots, ownPos, mSeqI, mEnum, mRange1, itemsOf, e_is_from, h1, h2])]
    have g1 : sIsi [.lst (rows.map rowD), .raw (.ty "list")] = some (.bl true) := by simp [sIsi, tyName, kit_ll]
    have g2 : ¬ ((60 : Int) < (rows.length : Int)) := by omega
    rw [mSeq_next (ρ' := [.own (.rcd [] []), .dat (.int n), .dat (.lst (rows.map rowD)), .dat (.int t), .no, .no]) (by simp [mkFn, mSeq, mIfS, mDo, mRet, mRetN, mSkip, mExpr, mAsg, mAnd, mOr, mNot, mAndV, mOrV, mNotV, mB, mIf, mV, mNeg, mCall, mOp2, mTup, mLst, mMeth, mSl, mPart, preL, seqM, M.bind, M.pure, M.lift, M.stuck, Out.andThen, mVar, Opn.pre, Opn.rd, rdM, rdLM, rdL, cellD, initC, initAt, outsOf, outAt, gNm, gTp, gNms, mNew, mFrz, mPar, mFld, mCallF, mCallK, mCallN, appF, rdA, setOuts, ownSlots, ownPos, mSeqI, mEnum, mRange1, itemsOf, g1, sLen, sGt, g2])]
    rw [mSeq_next (by rw [mFor_next (ds := enumD 0 (rows.map rowD)) (ρ1 := [.own (.rcd [] []), .dat (.int n), .dat (.lst (rows.map rowD)), .dat (.int t), .no, .no]) (by simp [mkFn, mSeq, mIfS, mDo, mRet, mRetN, mSkip, mExpr, mAsg, mAnd, mOr, mNot, mAndV, mOrV, mNotV, mB, mIf, mV, mNeg, mCall, mOp2, mTup, mLst, mMeth, mSl, mPart, preL, seqM, M.bind, M.pure, M.lift, M.stuck, Out.andThen, mVar, Opn.pre, Opn.rd, rdM, rdLM, rdL, cellD, initC, initAt, outsOf, outAt, gNm, gTp, gNms, mNew, mFrz, mPar, mFld, mCallF, mCallK, mCallN, appF, rdA, setOuts, ownSlots, ownPos, mSeqI, mEnum, mRange1, itemsOf])]; exact e1)]
    rw [mSeq_next (ρ' := [.own (.rcd [] []), .dat (.int n), .dat (.lst (rows.map rowD)), .dat (.int t), x, y]) (by simp [mkFn, mSeq, mIfS, mDo, mRet, mRetN, mSkip, mExpr, mAsg, mAnd, mOr, mNot, mAndV, mOrV, mNotV, mB, mIf, mV, mNeg, mCall, mOp2, mTup, mLst, mMeth, mSl, mPart, preL, seqM, M.bind, M.pure, M.lift, M.stuck, Out.andThen, mVar, Opn.pre, Opn.rd, rdM, rdLM, rdL, cellD, initC, initAt, outsOf, outAt, gNm, gTp, gNms, mNew, mFrz, mPar, mFld, mCallF, mCallK, mCallN, appF, rdA, setOuts, ownSlots, ownPos, mSeqI, mEnum, mRange1, itemsOf, e_is_from, h5, h6])]
    rw [mSeq_next (ρ' := [.own (.rcd ["many"] [.int n]), .dat (.int n), .dat (.lst (rows.map rowD)), .dat (.int t), x, y]) (by simp [mSetF, mkFn, mSeq, mIfS, mDo, mRet, mRetN, mSkip, mExpr, mAsg, mAnd, mOr, mNot, mAndV, mOrV, mNotV, mB, mIf, mV, mNeg, mCall, mOp2, mTup, mLst, mMeth, mSl, mPart, preL, seqM, M.bind, M.pure, M.lift, M.stuck, Out.andThen, mVar, Opn.pre, Opn.rd, rdM, rdLM, rdL, cellD, initC, initAt, outsOf, outAt, gNm, gTp, gNms, mNew, mFrz, mPar, mFld, mCallF, mCallK, mCallN, appF, rdA, setOuts, ownSlots, ownPos, mSeqI, mEnum, mRange1, itemsOf, ownAt])]
    have n1 : ¬ ("rows" : Str) = ("many" : Str) := by decide
    have n2 : ¬ ("most" : Str) = ("many" : Str) := by decide
    have n3 : ¬ ("most" : Str) = ("rows" : Str) := by decide
    rw [mSeq_next (ρ' := [.own (.rcd ["many", "rows"] [.int n, .tup (rows.map rowD)]), .dat (.int n), .dat (.lst (rows.map rowD)), .dat (.int t), x, y]) (by simp [mSetF, mkFn, mSeq, mIfS, mDo, mRet, mRetN, mSkip, mExpr, mAsg, mAnd, mOr, mNot, mAndV, mOrV, mNotV, mB, mIf, mV, mNeg, mCall, mOp2, mTup, mLst, mMeth, mSl, mPart, preL, seqM, M.bind, M.pure, M.lift, M.stuck, Out.andThen, mVar, Opn.pre, Opn.rd, rdM, rdLM, rdL, cellD, initC, initAt, outsOf, outAt, gNm, gTp, gNms, mNew, mFrz, mPar, mFld, mCallF, mCallK, mCallN, appF, rdA, setOuts, ownSlots, ownPos, mSeqI, mEnum, mRange1, itemsOf, ownAt, sTuple, n1])]
    simp [mSetF, mkFn, mSeq, mIfS, mDo, mRet, mRetN, mSkip, mExpr, mAsg, mAnd, mOr, mNot, mAndV, mOrV, mNotV, mB, mIf, mV, mNeg, mCall, mOp2, mTup, mLst, mMeth, mSl, mPart, preL, seqM, M.bind, M.pure, M.lift, M.stuck, Out.andThen, mVar, Opn.pre, Opn.rd, rdM, rdLM, rdL, cellD, initC, initAt, outsOf, outAt, gNm, gTp, gNms, mNew, mFrz, mPar, mFld, mCallF, mCallK, mCallN, appF, rdA, setOuts, ownSlots, ownPos, mSeqI, mEnum, mRange1, itemsOf, ownAt, n2, n3, farmD]
  unfold m_Farmdd_initdd
  rw [mkFn_next e3]
  rfl
structure FarmOk (n : Int) (rows : List (List Int)) : Prop where
  n1 : 1 ≤ n
  n2 : n ≤ 30
  len : rows.length ≤ 60
  row : ∀ r ∈ rows, RowOk n r
theorem atI_nat {α : Type} (l : List α) (s : Nat) : atI l (s : Int) = l[s]? := by
  unfold atI ixN
  rw [if_pos (Int.natCast_nonneg s)]
  by_cases h : s < l.length
  · rw [if_pos (by omega)]
    simp
  · rw [if_neg (by omega), List.getElem?_eq_none (by omega)]
    rfl
theorem idxF_ints (v : Int) : ∀ {r : List Int}, v ∈ r → idxF (.int v) (r.map .int) = some (r.idxOf v)
  | [], h => by cases h
  | a :: r, h => by
    rw [List.map_cons]
    unfold idxF
    by_cases e : a = v
    · subst e
      simp [eqF, List.idxOf_cons]
    · have hm : v ∈ r := by
        rcases List.mem_cons.mp h with z | z
        · exact absurd z.symm e
        · exact z
      have e2 : (a == v) = false := by simpa using e
      simp [eqF, e2, idxF_ints v hm, List.idxOf_cons]
theorem flat_ints : ∀ r : List Int, (r.map D.int).all flatD = true
  | [] => rfl
  | a :: r => by simp [flatD]
theorem sTix_row {v : Int} {r : List Int} (h : v ∈ r) : sTix (rowD r) [.int v] = some (.int (r.idxOf v)) := by
  unfold sTix rowD sIndex
  simp [itemsOf, flatD, idxF_ints v h]
theorem cut_take (l : List D) (k : Nat) : cutD l none (some (k : Int)) = l.take k := by
  unfold cutD
  rw [HT.sIx_none, HT.sIx_nat, Nat.sub_zero, List.drop_zero]
  by_cases h : k ≤ l.length
  · rw [Nat.min_eq_left h]
  · rw [Nat.min_eq_right (by omega), List.take_length, List.take_of_length_le (by omega)]
def wellD (a b d : Int) : D := .lst [.int a, .int b, .int d]
theorem ix0 {x y z : D} : sIx (.lst [x, y, z]) (.int 0) = some x := by rfl
theorem ix1 {x y z : D} : sIx (.lst [x, y, z]) (.int 1) = some y := by rfl
theorem ix2 {x y z : D} : sIx (.lst [x, y, z]) (.int 2) = some z := by rfl
theorem fmod_in {a n : Int} (h : 0 < n) : 0 ≤ a.fmod n ∧ a.fmod n < n := by
  rw [Int.fmod_eq_emod_of_nonneg _ (Int.le_of_lt h)]
  exact ⟨Int.emod_nonneg _ (by omega), Int.emod_lt_of_pos _ h⟩
theorem sMul_l {i j : Int} (h : inR i = true) : sMul (.int i) (.int j) = some (.int (i * j)) := by simp [sMul, h]
theorem sMul_r {i j : Int} (h : inR j = true) : sMul (.int i) (.int j) = some (.int (i * j)) := by simp [sMul, h]
theorem inR_fmod {a n : Int} (h : 0 < n) (h2 : n ≤ 2147483647) : inR (a.fmod n) = true := by
  have := fmod_in (a := a) h
  simp [inR]
  omega
theorem e_draw (a b d : Int) {lim : Int} (h : 0 < lim) (h2 : lim < 1000000) : ∃ r a' b' d', m_law_draw [wellD a b d, .int lim] = .ret (.int r) [wellD a' b' d'] ∧ 0 ≤ r ∧ r < lim := by
  have hl : lim ≠ 0 := by omega
  have hb : lim.natAbs < 1073741824 := by omega
  by_cases ha : 0 < a
  · refine ⟨a.fmod lim, a.fdiv lim, b, d, ?_, fmod_in h⟩
    unfold m_law_draw
    rw [mkFn_ret (d := .int (a.fmod lim)) (ρ := [.own (wellD (a.fdiv lim) b d), .dat (.int lim), .dat (.int (a.fmod lim)), .no]) (by
      show b_law_draw [.own (wellD a b d), .dat (.int lim), .no, .no] = _
      unfold b_law_draw
      rw [mSeq_ret]
      rw [mIfS_t (ρ' := [.own (wellD a b d), .dat (.int lim), .no, .no]) (by simp [mkFn, mSeq, mIfS, mDo, mRet, mRetN, mSkip, mExpr, mAsg, mAnd, mOr, mNot, mAndV, mOrV, mNotV, mB, mIf, mV, mNeg, mCall, mOp2, mTup, mLst, mMeth, mSl, mPart, preL, seqM, M.bind, M.pure, M.lift, M.stuck, Out.andThen, mVar, Opn.pre, Opn.rd, rdM, rdLM, rdL, cellD, initC, initAt, outsOf, outAt, gNm, gTp, gNms, mNew, mFrz, mPar, mFld, mCallF, mCallK, mCallN, appF, rdA, setOuts, ownSlots, ownPos, mSeqI, mEnum, mRange1, itemsOf, wellD, ix0, sGt, ha])]
      simp [mkFn, mSeq, mIfS, mDo, mRet, mRetN, mSkip, mExpr, mAsg, mAnd, mOr, mNot, mAndV, mOrV, mNotV, mB, mIf, mV, mNeg, mCall, mOp2, mTup, mLst, mMeth, mSl, mPart, preL, seqM, M.bind, M.pure, M.lift, M.stuck, Out.andThen, mVar, Opn.pre, Opn.rd, rdM, rdLM, rdL, cellD, initC, initAt, outsOf, outAt, gNm, gTp, gNms, mNew, mFrz, mPar, mFld, mCallF, mCallK, mCallN, appF, rdA, setOuts, ownSlots, ownPos, mSeqI, mEnum, mRange1, itemsOf, wellD, ix0, sMod, sFdiv, hl, hb, mSetIx, ownAt, ixN])]
    rfl
  · let x0 := (b + 104729 * (d + 1) + 1)
    let x1 := (x0 * 48271).fmod 2147483647
    let x2 := (x1 * (x1.fdiv 1009 + 69621)).fmod 2147483647
    let x3 := (x2 * (x2.fdiv 2003 + 40692)).fmod 2147483399
    refine ⟨x3.fmod lim, a, b, d + 1, ?_, fmod_in h⟩
    have r1 : inR x1 = true := inR_fmod (by omega) (by omega)
    have r2 : inR x2 = true := inR_fmod (by omega) (by omega)
    unfold m_law_draw
    rw [mkFn_ret (d := .int (x3.fmod lim)) (ρ := [.own (wellD a b (d + 1)), .dat (.int lim), .no, .dat (.int x2)]) (by
      show b_law_draw [.own (wellD a b d), .dat (.int lim), .no, .no] = _
      unfold b_law_draw
      rw [mSeq_next (ρ' := [.own (wellD a b d), .dat (.int lim), .no, .no]) (by
        rw [mIfS_f (ρ' := [.own (wellD a b d), .dat (.int lim), .no, .no]) (by simp [mkFn, mSeq, mIfS, mDo, mRet, mRetN, mSkip, mExpr, mAsg, mAnd, mOr, mNot, mAndV, mOrV, mNotV, mB, mIf, mV, mNeg, mCall, mOp2, mTup, mLst, mMeth, mSl, mPart, preL, seqM, M.bind, M.pure, M.lift, M.stuck, Out.andThen, mVar, Opn.pre, Opn.rd, rdM, rdLM, rdL, cellD, initC, initAt, outsOf, outAt, gNm, gTp, gNms, mNew, mFrz, mPar, mFld, mCallF, mCallK, mCallN, appF, rdA, setOuts, ownSlots, ownPos, mSeqI, mEnum, mRange1, itemsOf, wellD, ix0, sGt, ha])]
        simp [mkFn, mSeq, mIfS, mDo, mRet, mRetN, mSkip, mExpr, mAsg, mAnd, mOr, mNot, mAndV, mOrV, mNotV, mB, mIf, mV, mNeg, mCall, mOp2, mTup, mLst, mMeth, mSl, mPart, preL, seqM, M.bind, M.pure, M.lift, M.stuck, Out.andThen, mVar, Opn.pre, Opn.rd, rdM, rdLM, rdL, cellD, initC, initAt, outsOf, outAt, gNm, gTp, gNms, mNew, mFrz, mPar, mFld, mCallF, mCallK, mCallN, appF, rdA, setOuts, ownSlots, ownPos, mSeqI, mEnum, mRange1, itemsOf])]
      rw [mSeq_next (ρ' := [.own (wellD a b (d + 1)), .dat (.int lim), .no, .no]) (by simp [mkFn, mSeq, mIfS, mDo, mRet, mRetN, mSkip, mExpr, mAsg, mAnd, mOr, mNot, mAndV, mOrV, mNotV, mB, mIf, mV, mNeg, mCall, mOp2, mTup, mLst, mMeth, mSl, mPart, preL, seqM, M.bind, M.pure, M.lift, M.stuck, Out.andThen, mVar, Opn.pre, Opn.rd, rdM, rdLM, rdL, cellD, initC, initAt, outsOf, outAt, gNm, gTp, gNms, mNew, mFrz, mPar, mFld, mCallF, mCallK, mCallN, appF, rdA, setOuts, ownSlots, ownPos, mSeqI, mEnum, mRange1, itemsOf, wellD, ix2, sAdd, mSetIx, ownAt, ixN])]
      have k1 : sMul (.int 104729) (.int (d + 1)) = some (.int (104729 * (d + 1))) := sMul_l (by decide)
      have k2 : sMul (.int x0) (.int 48271) = some (.int (x0 * 48271)) := sMul_r (by decide)
      rw [mSeq_next (ρ' := [.own (wellD a b (d + 1)), .dat (.int lim), .no, .dat (.int x1)]) (by simp [mkFn, mSeq, mIfS, mDo, mRet, mRetN, mSkip, mExpr, mAsg, mAnd, mOr, mNot, mAndV, mOrV, mNotV, mB, mIf, mV, mNeg, mCall, mOp2, mTup, mLst, mMeth, mSl, mPart, preL, seqM, M.bind, M.pure, M.lift, M.stuck, Out.andThen, mVar, Opn.pre, Opn.rd, rdM, rdLM, rdL, cellD, initC, initAt, outsOf, outAt, gNm, gTp, gNms, mNew, mFrz, mPar, mFld, mCallF, mCallK, mCallN, appF, rdA, setOuts, ownSlots, ownPos, mSeqI, mEnum, mRange1, itemsOf, wellD, ix1, ix2, sAdd, sMod, k1]; simp [x0] at k2; simp [k2, x1, x0, sMod])]
      have k3 : sMul (.int x1) (.int (x1.fdiv 1009 + 69621)) = some (.int (x1 * (x1.fdiv 1009 + 69621))) := sMul_l r1
      rw [mSeq_next (ρ' := [.own (wellD a b (d + 1)), .dat (.int lim), .no, .dat (.int x2)]) (by simp [mkFn, mSeq, mIfS, mDo, mRet, mRetN, mSkip, mExpr, mAsg, mAnd, mOr, mNot, mAndV, mOrV, mNotV, mB, mIf, mV, mNeg, mCall, mOp2, mTup, mLst, mMeth, mSl, mPart, preL, seqM, M.bind, M.pure, M.lift, M.stuck, Out.andThen, mVar, Opn.pre, Opn.rd, rdM, rdLM, rdL, cellD, initC, initAt, outsOf, outAt, gNm, gTp, gNms, mNew, mFrz, mPar, mFld, mCallF, mCallK, mCallN, appF, rdA, setOuts, ownSlots, ownPos, mSeqI, mEnum, mRange1, itemsOf, sAdd, sMod, sFdiv, k3]; rfl)]
      have k4 : sMul (.int x2) (.int (x2.fdiv 2003 + 40692)) = some (.int (x2 * (x2.fdiv 2003 + 40692))) := sMul_l r2
      simp [mkFn, mSeq, mIfS, mDo, mRet, mRetN, mSkip, mExpr, mAsg, mAnd, mOr, mNot, mAndV, mOrV, mNotV, mB, mIf, mV, mNeg, mCall, mOp2, mTup, mLst, mMeth, mSl, mPart, preL, seqM, M.bind, M.pure, M.lift, M.stuck, Out.andThen, mVar, Opn.pre, Opn.rd, rdM, rdLM, rdL, cellD, initC, initAt, outsOf, outAt, gNm, gTp, gNms, mNew, mFrz, mPar, mFld, mCallF, mCallK, mCallN, appF, rdA, setOuts, ownSlots, ownPos, mSeqI, mEnum, mRange1, itemsOf, sAdd, sMod, sFdiv, k4, hl]
      rfl)]
    rfl
theorem eraseIdx_map (l : List Int) (k : Nat) : (l.map D.int).eraseIdx k = (l.eraseIdx k).map D.int := erase_mapD l k
theorem mMethWR1 {sem : D → List D → Option (D × D)} {i : Nat} {f : M D} {ρ ρ1 : Cells} {x0 : List D} {d e : D} {r : D × D} (h0 : ρ[i]? = some (.own (.lst x0))) (h1 : f ρ = .ok e ρ1) (h2 : ρ1[i]? = some (.own d)) (h3 : sem d [e] = some r) : mMethWR sem i [f] ρ = .ok r.1 (ρ1.set i (.own r.2)) := by
  unfold mMethWR
  simp [ownAt, M.bind, M.pure, M.lift, Out.andThen, seqM, isLst, h0, h1, h2, h3, setOwn]
theorem cons_erase : ∀ {l : List Int} {i : Nat} {x : Int}, l[i]? = some x → (x :: l.eraseIdx i).Perm l
  | [], i, x, h => by simp at h
  | a :: l, 0, x, h => by
    simp at h
    subst h
    exact List.Perm.refl _
  | a :: l, i + 1, x, h => by
    rw [List.eraseIdx_cons_succ]
    exact (List.Perm.swap a x _).trans ((cons_erase (l := l) (by simpa using h)).cons a)
theorem sh_body (a b d : Int) (it : D) (l m : List Int) (h : l ≠ []) (hl : l.length < 4000) (hm : m.length < 4000) : ∃ a' b' d' k x, l[k]? = some x ∧
    mExpr (mMethWR wAppend 3 [(mMethWR wPopAt 2 [(mCallF m_law_draw [(.own 0), (.dat (mCall sLen [(.own 2)]))])])]) [.own (wellD a b d), .dat it, .own (.lst (l.map .int)), .own (.lst (m.map .int))] =
      .next [.own (wellD a' b' d'), .dat it, .own (.lst ((l.eraseIdx k).map .int)), .own (.lst ((m ++ [x]).map .int))] := by
  have hp : 0 < l.length := List.length_pos_iff.mpr h
  obtain ⟨r, a', b', d', e, h1, h2⟩ := e_draw a b d (lim := (l.length : Int)) (by omega) (by omega)
  have hk : r.toNat < l.length := by omega
  refine ⟨a', b', d', r.toNat, l[r.toNat], List.getElem?_eq_getElem hk, ?_⟩
  have e1 : mCallF m_law_draw [(.own 0), (.dat (mCall sLen [(.own 2)]))] [.own (wellD a b d), .dat it, .own (.lst (l.map .int)), .own (.lst (m.map .int))] = .ok (.int r) [.own (wellD a' b' d'), .dat it, .own (.lst (l.map .int)), .own (.lst (m.map .int))] := by
    simp [mkFn, mSeq, mIfS, mDo, mRet, mRetN, mSkip, mExpr, mAsg, mAnd, mOr, mNot, mAndV, mOrV, mNotV, mB, mIf, mV, mNeg, mCall, mOp2, mTup, mLst, mMeth, mSl, mPart, preL, seqM, M.bind, M.pure, M.lift, M.stuck, Out.andThen, mVar, Opn.pre, Opn.rd, rdM, rdLM, rdL, cellD, initC, initAt, outsOf, outAt, gNm, gTp, gNms, mNew, mFrz, mPar, mFld, mCallF, mCallK, mCallN, appF, rdA, setOuts, ownSlots, ownPos, mSeqI, mEnum, mRange1, itemsOf, sLen, e]
  have e2 : wPopAt (.lst (l.map .int)) [.int r] = some (.int l[r.toNat], .lst ((l.eraseIdx r.toNat).map .int)) := by
    have q : seqIndex? r (l.map D.int).length = some r.toNat := PySem.StrLaws.seqIndex_nonneg h1 (by rw [List.length_map]; exact h2)
    show (if -(2 ^ 62) ≤ r ∧ r < 2 ^ 62 then (seqIndex? r (l.map D.int).length).bind fun k => ((l.map D.int)[k]?).map fun y => (y, D.lst ((l.map D.int).eraseIdx k)) else none) = _
    rw [if_pos (by omega), q]
    simp [hk, eraseIdx_map]
  have e3 : mMethWR wPopAt 2 [(mCallF m_law_draw [(.own 0), (.dat (mCall sLen [(.own 2)]))])] [.own (wellD a b d), .dat it, .own (.lst (l.map .int)), .own (.lst (m.map .int))] = .ok (.int l[r.toNat]) [.own (wellD a' b' d'), .dat it, .own (.lst ((l.eraseIdx r.toNat).map .int)), .own (.lst (m.map .int))] := by
    exact mMethWR1 (x0 := l.map .int) rfl e1 rfl e2
  have e4 : wAppend (.lst (m.map .int)) [.int l[r.toNat]] = some (.non, .lst ((m ++ [l[r.toNat]]).map .int)) := by
    have q : m.length < 16777216 := by omega
    simp [wAppend, q]
  have e5 := mMethWR1 (sem := wAppend) (i := 3) (x0 := m.map .int) (ρ := [.own (wellD a b d), .dat it, .own (.lst (l.map .int)), .own (.lst (m.map .int))]) rfl e3 rfl e4
  unfold mExpr mDo
  rw [e5]
  rfl
theorem e_shuffled (a b d : Int) (l : List Int) (hl : l.length < 4000) : ∃ (a' b' d' : Int) (m : List Int), m_law_shuffled [wellD a b d, .lst (l.map .int)] = .ret (.lst (m.map .int)) [wellD a' b' d'] ∧ m.Perm l := by
  obtain ⟨ρ', e1, a', b', d', m, hm, he⟩ := while_inv (t := mB (mOp2 sNe (.own 2) (.dat (mLst [])))) (body := mExpr (mMethWR wAppend 3 [(mMethWR wPopAt 2 [(mCallF m_law_draw [(.own 0), (.dat (mCall sLen [(.own 2)]))])])]))
    (fun k ρ => ∃ (a b d : Int) (l2 m2 : List Int), ρ = [.own (wellD a b d), .dat (.lst (l.map .int)), .own (.lst (l2.map .int)), .own (.lst (m2.map .int))] ∧ l2.length = k ∧ (l2 ++ m2).Perm l)
    (fun ρ => ∃ (a b d : Int) (m2 : List Int), List.Perm m2 l ∧ ρ = [.own (wellD a b d), .dat (.lst (l.map .int)), .own (.lst []), .own (.lst (m2.map .int))])
    (fun k ρ ⟨a, b, d, l2, m2, e, hk, hp⟩ => by
      subst e
      have q := sNe_lst l2 []
      refine ⟨!decide (l2 = []), [.own (wellD a b d), .dat (.lst (l.map .int)), .own (.lst (l2.map .int)), .own (.lst (m2.map .int))], ?_, fun hb => ?_, fun hb => ?_⟩
      · simp only [List.map_nil] at q
        simp [mkFn, mSeq, mIfS, mDo, mRet, mRetN, mSkip, mExpr, mAsg, mAnd, mOr, mNot, mAndV, mOrV, mNotV, mB, mIf, mV, mNeg, mCall, mOp2, mTup, mLst, mMeth, mSl, mPart, preL, seqM, M.bind, M.pure, M.lift, M.stuck, Out.andThen, mVar, Opn.pre, Opn.rd, rdM, rdLM, rdL, cellD, initC, initAt, outsOf, outAt, gNm, gTp, gNms, mNew, mFrz, mPar, mFld, mCallF, mCallK, mCallN, appF, rdA, setOuts, ownSlots, ownPos, mSeqI, mEnum, mRange1, itemsOf, q]
      · have z : l2 = [] := by simpa using hb
        subst z
        exact ⟨a, b, d, m2, by simpa using hp, rfl⟩
      · have z : l2 ≠ [] := by simpa using hb
        have hpl := hp.length_eq
        rw [List.length_append] at hpl
        obtain ⟨a', b', d', i, x, hx, e⟩ := sh_body a b d (.lst (l.map .int)) l2 m2 z (by omega) (by omega)
        have hi := (List.getElem?_eq_some_iff.mp hx).1
        refine ⟨_, l2.length - 1, e, by omega, a', b', d', _, _, rfl, by rw [List.length_eraseIdx_of_lt hi], ?_⟩
        have p1 : (x :: l2.eraseIdx i).Perm l2 := cons_erase hx
        have p2 : (l2.eraseIdx i ++ (m2 ++ [x])).Perm (x :: l2.eraseIdx i ++ m2) := by
          rw [← List.append_assoc]
          exact List.perm_append_comm
        exact p2.trans ((p1.append_right m2).trans hp)) 4096 l.length _ (by omega) ⟨a, b, d, l, [], rfl, rfl, by simp⟩
  refine ⟨a', b', d', m, ?_, hm⟩
  subst he
  unfold m_law_shuffled
  rw [mkFn_ret (d := .lst (m.map .int)) (ρ := [.own (wellD a' b' d'), .dat (.lst (l.map .int)), .own (.lst []), .dat (.lst (m.map .int))]) (by
    show b_law_shuffled [.own (wellD a b d), .dat (.lst (l.map .int)), .no, .no] = _
    unfold b_law_shuffled
    rw [mSeq_next (ρ' := [.own (wellD a b d), .dat (.lst (l.map .int)), .own (.lst (l.map .int)), .no]) (by simp [mkFn, mSeq, mIfS, mDo, mRet, mRetN, mSkip, mExpr, mAsg, mAnd, mOr, mNot, mAndV, mOrV, mNotV, mB, mIf, mV, mNeg, mCall, mOp2, mTup, mLst, mMeth, mSl, mPart, preL, seqM, M.bind, M.pure, M.lift, M.stuck, Out.andThen, mVar, Opn.pre, Opn.rd, rdM, rdLM, rdL, cellD, initC, initAt, outsOf, outAt, gNm, gTp, gNms, mNew, mFrz, mPar, mFld, mCallF, mCallK, mCallN, appF, rdA, setOuts, ownSlots, ownPos, mSeqI, mEnum, mRange1, itemsOf, sList])]
    rw [mSeq_next (ρ' := [.own (wellD a b d), .dat (.lst (l.map .int)), .own (.lst (l.map .int)), .own (.lst (([] : List Int).map .int))]) (by simp [mkFn, mSeq, mIfS, mDo, mRet, mRetN, mSkip, mExpr, mAsg, mAnd, mOr, mNot, mAndV, mOrV, mNotV, mB, mIf, mV, mNeg, mCall, mOp2, mTup, mLst, mMeth, mSl, mPart, preL, seqM, M.bind, M.pure, M.lift, M.stuck, Out.andThen, mVar, Opn.pre, Opn.rd, rdM, rdLM, rdL, cellD, initC, initAt, outsOf, outAt, gNm, gTp, gNms, mNew, mFrz, mPar, mFld, mCallF, mCallK, mCallN, appF, rdA, setOuts, ownSlots, ownPos, mSeqI, mEnum, mRange1, itemsOf])]
    rw [mSeq_next e1]
    simp [mkFn, mSeq, mIfS, mDo, mRet, mRetN, mSkip, mExpr, mAsg, mAnd, mOr, mNot, mAndV, mOrV, mNotV, mB, mIf, mV, mNeg, mCall, mOp2, mTup, mLst, mMeth, mSl, mPart, preL, seqM, M.bind, M.pure, M.lift, M.stuck, Out.andThen, mVar, Opn.pre, Opn.rd, rdM, rdLM, rdL, cellD, initC, initAt, outsOf, outAt, gNm, gTp, gNms, mNew, mFrz, mPar, mFld, mCallF, mCallK, mCallN, appF, rdA, setOuts, ownSlots, ownPos, mSeqI, mEnum, mRange1, itemsOf])]
  rfl
theorem lcM_state {g : TgM} {tt : M Bool} {fe : M D} {vs : List Nat} (I : Cells → Prop) (Pe : D → Prop) : ∀ (ds : List D) (ρ : Cells), I ρ →
    (∀ d ∈ ds, ∀ ρ, I ρ → ∃ ρ1 e ρ2, g d (wipeC ρ vs) = some ρ1 ∧ tt ρ1 = .ok true ρ1 ∧ fe ρ1 = .ok e ρ2 ∧ Pe e ∧ I ρ2) →
    ∃ es ρ', lcM g tt fe vs ds ρ = some (es, ρ') ∧ es.length = ds.length ∧ (∀ e ∈ es, Pe e) ∧ I ρ'
  | [], ρ, hI, _ => ⟨[], ρ, rfl, rfl, (fun e h => nomatch h), hI⟩
  | d :: ds, ρ, hI, h => by
    obtain ⟨ρ1, e, ρ2, h1, h2, h3, h4, h5⟩ := h d List.mem_cons_self ρ hI
    obtain ⟨es, ρ', q1, q2, q3, q4⟩ := lcM_state I Pe ds ρ2 h5 fun x hx => h x (List.mem_cons_of_mem _ hx)
    refine ⟨e :: es, ρ', ?_, by rw [List.length_cons, List.length_cons, q2], fun x hx => ?_, q4⟩
    · unfold lcM
      simp [h1, h2, h3, q1]
    · rcases List.mem_cons.mp hx with z | z
      · subst z; exact h4
      · exact q3 x z
def rng (k : Nat) : List Int := (List.range k).map fun (i : Nat) => 0 + (i : Int)
theorem rng_D (k : Nat) : rangeD 0 k = (rng k).map .int := by
  unfold rangeD rng
  rw [List.map_map]
  rfl
theorem rng_len (k : Nat) : (rng k).length = k := by simp [rng]
theorem rng_nd (k : Nat) : (rng k).Nodup := by
  unfold rng
  rw [List.Nodup, List.pairwise_map]
  exact List.Pairwise.imp (fun h => by omega) List.nodup_range
theorem rng_mem {k : Nat} {v : Int} (h : v ∈ rng k) : 0 ≤ v ∧ v < k := by
  obtain ⟨i, hi, rfl⟩ := List.mem_map.mp h
  have := List.mem_range.mp hi
  omega
theorem row_of {n r : Int} {m : List Int} (hn : 1 ≤ n) (hn2 : n ≤ 30) (hm : m.Perm (rng n.toNat)) (h0 : 0 ≤ r) : RowOk n (m.take (1 + r).toNat) := by
  have hl : m.length = n.toNat := by rw [hm.length_eq, rng_len]
  refine ⟨fun z => ?_, fun v hv => ?_, (hm.nodup_iff.mpr (rng_nd _)).sublist (List.take_sublist _ _), ?_⟩
  · have := congrArg List.length z
    rw [List.length_take, List.length_nil, hl] at this
    omega
  · have := rng_mem (hm.mem_iff.mp (List.mem_of_mem_take hv))
    omega
  · rw [List.length_take, hl]
    omega
theorem cut_take' (l : List D) (k : Int) (hk : 0 ≤ k) : cutD l none (some k) = l.take k.toNat := by
  have := cut_take l k.toNat
  rwa [Int.toNat_of_nonneg hk] at this
theorem e_lists' (a b d : Int) {n many : Int} (hn : 1 ≤ n) (hn2 : n ≤ 30) (h0 : 0 ≤ many) (h1 : many ≤ 1000) : ∃ (a' b' d' : Int) (rows : List (List Int)), m_law_lists [wellD a b d, .int n, .int many] = .ret (.lst (rows.map rowD)) [wellD a' b' d'] ∧ rows.length = many.toNat ∧ ∀ r ∈ rows, RowOk n r := by
  obtain ⟨es, ρ', q1, q2, q3, a', b', d', x, q4⟩ := lcM_state (g := gNm 3) (tt := M.pure true) (fe := mCall sTuple [(.dat (mSl sCut (.dat (mCallF m_law_shuffled [(.own 0), (.dat (mListRg (mVar 1)))])) none (some (mOp2 sAdd (.dat (M.pure (.int 1))) (.dat (mCallF m_law_draw [(.own 0), (.dat (mVar 1))]))))))]) (vs := [3])
    (fun ρ => ∃ (a b d : Int) (x : Cell), ρ = [.own (wellD a b d), .dat (.int n), .dat (.int many), x]) (fun e => ∃ r, RowOk n r ∧ e = rowD r) (rangeD 0 many.toNat) [.own (wellD a b d), .dat (.int n), .dat (.int many), .no] ⟨a, b, d, .no, rfl⟩ (fun dd _ ρ ⟨a, b, d, x, e⟩ => by
      subst e
      obtain ⟨a1, b1, d1, m, e1, hm⟩ := e_shuffled a b d (rng n.toNat) (by rw [rng_len]; omega)
      obtain ⟨r, a2, b2, d2, e2, k1, k2⟩ := e_draw a1 b1 d1 (lim := n) (by omega) (by omega)
      rw [← rng_D] at e1
      refine ⟨[.own (wellD a b d), .dat (.int n), .dat (.int many), .dat dd], rowD (m.take (1 + r).toNat), [.own (wellD a2 b2 d2), .dat (.int n), .dat (.int many), .dat dd], by simp [gNm, wipeC], rfl, ?_, ⟨_, row_of hn hn2 hm k1, rfl⟩, a2, b2, d2, _, rfl⟩
      have g1 : mListRg (mVar 1) [.own (wellD a b d), .dat (.int n), .dat (.int many), .dat dd] = .ok (.lst (rangeD 0 n.toNat)) [.own (wellD a b d), .dat (.int n), .dat (.int many), .dat dd] := by
        have z : -(2 ^ 62) ≤ n ∧ n ≤ 16777216 := by omega
        unfold mListRg
        simp [mkFn, mSeq, mIfS, mDo, mRet, mRetN, mSkip, mExpr, mAsg, mAnd, mOr, mNot, mAndV, mOrV, mNotV, mB, mIf, mV, mNeg, mCall, mOp2, mTup, mLst, mMeth, mSl, mPart, preL, seqM, M.bind, M.pure, M.lift, M.stuck, Out.andThen, mVar, Opn.pre, Opn.rd, rdM, rdLM, rdL, cellD, initC, initAt, outsOf, outAt, gNm, gTp, gNms, mNew, mFrz, mPar, mFld, mCallF, mCallK, mCallN, appF, rdA, setOuts, ownSlots, ownPos, mSeqI, mEnum, mRange1, itemsOf]
        rw [if_pos (by omega)]
        rfl
      have g2 : sCut (.lst (m.map .int)) none (some (1 + r)) = some (.lst ((m.take (1 + r).toNat).map .int)) := by
        simp [sCut, cut_take' _ _ (show 0 ≤ 1 + r by omega), List.map_take]
      simp [mkFn, mSeq, mIfS, mDo, mRet, mRetN, mSkip, mExpr, mAsg, mAnd, mOr, mNot, mAndV, mOrV, mNotV, mB, mIf, mV, mNeg, mCall, mOp2, mTup, mLst, mMeth, mSl, mPart, preL, seqM, M.bind, M.pure, M.lift, M.stuck, Out.andThen, mVar, Opn.pre, Opn.rd, rdM, rdLM, rdL, cellD, initC, initAt, outsOf, outAt, gNm, gTp, gNms, mNew, mFrz, mPar, mFld, mCallF, mCallK, mCallN, appF, rdA, setOuts, ownSlots, ownPos, mSeqI, mEnum, mRange1, itemsOf, g1, e1, e2, sAdd, g2, sTuple, rowD])
  have q3' : ∃ rows : List (List Int), es = rows.map rowD ∧ ∀ r ∈ rows, RowOk n r := by
    clear q1 q2
    induction es with
    | nil => exact ⟨[], rfl, fun r h => by cases h⟩
    | cons e es ih =>
      obtain ⟨rows, e1, e2⟩ := ih fun x hx => q3 x (List.mem_cons_of_mem _ hx)
      obtain ⟨r, hr, rfl⟩ := q3 e List.mem_cons_self
      exact ⟨r :: rows, by rw [e1]; rfl, fun x hx => by
        rcases List.mem_cons.mp hx with z | z
        · subst z; exact hr
        · exact e2 x z⟩
  obtain ⟨rows, e1, e2⟩ := q3'
  subst e1 q4
  rw [List.length_map, rangeD_len] at q2
  refine ⟨a', b', d', rows, ?_, q2, e2⟩
  unfold m_law_lists
  rw [mkFn_ret (d := .lst (rows.map rowD)) (ρ := [.own (wellD a' b' d'), .dat (.int n), .dat (.int many), .no]) (by
    show b_law_lists [.own (wellD a b d), .dat (.int n), .dat (.int many), .no] = _
    unfold b_law_lists mRet mDo mLc M.bind mRange1
    have z : mVar 2 [.own (wellD a b d), .dat (.int n), .dat (.int many), .no] = .ok (.int many) [.own (wellD a b d), .dat (.int n), .dat (.int many), .no] := rfl
    simp only [M.bind, z, Out.andThen]
    rw [if_pos (by omega)]
    simp [M.pure, isOwn, q1, unwipe, cellOr])]
  rfl
theorem filter_int (Q : Int → Bool) (P : D → Bool) (h : ∀ i, P (.int i) = Q i) : ∀ l : List Int, (l.map D.int).filter P = (l.filter Q).map .int
  | [] => rfl
  | a :: l => by
    rw [List.map_cons, List.filter_cons, List.filter_cons, h a, filter_int Q P h l]
    cases Q a <;> rfl
def ofInt (Q : Int → Bool) : D → Bool
  | .int i => Q i
  | _ => false
theorem find_any (Q : Int → Bool) : ∀ l : List Int, (match (l.map D.int).find? (ofInt Q) with | some _ => true | none => false) = l.any Q
  | [] => rfl
  | a :: l => by
    have := find_any Q l
    rw [List.map_cons, List.find?_cons, List.any_cons]
    cases h : Q a with
    | true => simp [ofInt, h]
    | false =>
      have ho : ofInt Q (.int a) = false := h
      rw [ho]
      simpa using this
theorem mOp2_dd {sem : D → D → Option D} {f g : M D} {ρ ρ1 ρ2 : Cells} {x y r : D} (h1 : f ρ = .ok x ρ1) (h2 : g ρ1 = .ok y ρ2) (h3 : sem x y = some r) : mOp2 sem (.dat f) (.dat g) ρ = .ok r ρ2 := by
  unfold mOp2 M.bind
  simp [Opn.pre, h1, h2, Out.andThen, rdM, Opn.rd, M.lift, h3]
theorem mB_ok {f : M D} {ρ ρ1 : Cells} {b : Bool} (h : f ρ = .ok (.bl b) ρ1) : mB f ρ = .ok b ρ1 := by
  unfold mB M.bind
  simp [h, Out.andThen, M.pure]
theorem find_ints (Q : Int → Bool) : ∀ l : List Int, (l.map D.int).find? (ofInt Q) = (l.find? Q).map .int
  | [] => rfl
  | a :: l => by
    rw [List.map_cons, List.find?_cons, List.find?_cons, show ofInt Q (.int a) = Q a from rfl, find_ints Q l]
    cases Q a <;> rfl
theorem mLenF_ok {F : Fn} {fe : M D} {ρ ρ1 : Cells} {d : D} {k : Int} {o : List D} (h1 : fe ρ = .ok d ρ1) (h2 : isRcd d = true) (h3 : F [d] = .ret (.int k) o) (h4 : 0 ≤ k ∧ k < 2 ^ 63) : mLenF F fe ρ = .ok (.int k) ρ1 := by
  unfold mLenF M.bind
  rw [h1]
  show (if isRcd d = true then _ else _) = _
  rw [if_pos h2, h3]
  exact if_pos h4
theorem small63 {k : Nat} (h : k ≤ 1000) : (0 : Int) ≤ (k : Int) ∧ (k : Int) < 2 ^ 63 := by
  refine ⟨Int.natCast_nonneg k, ?_⟩
  have h2 : (k : Int) ≤ 1000 := by omega
  have h3 : (1000 : Int) < 2 ^ 63 := by decide
  exact Int.lt_of_le_of_lt h2 h3
theorem ix_row {rows : List (List Int)} {i : Nat} {r : List Int} (hr : rows[i]? = some r) : sIx (.tup (rows.map rowD)) (.int i) = some (rowD r) := by simp [sIx, atI_nat, hr]
theorem e_lenF {n t : Int} {rows : List (List Int)} (h : rows.length ≤ 1000) {ρ : Cells} (h0 : mVar 0 ρ = .ok (farmD n rows t) ρ) : mLenF m_Farmdd_lendd (mVar 0) ρ = .ok (.int rows.length) ρ := mLenF_ok h0 rfl (e_len n rows t) (small63 h)
theorem nd_take : ∀ {l : List Int} {i : Nat} {v : Int}, l.Nodup → l[i]? = some v → v ∉ l.take i
  | [], i, v, _, h => by simp at h
  | a :: l, 0, v, _, h => by simp
  | a :: l, i + 1, v, hn, h => by
    obtain ⟨h1, h2⟩ := List.nodup_cons.mp hn
    have h3 : l[i]? = some v := by simpa using h
    have h4 := List.mem_of_getElem? h3
    rw [List.take_succ_cons, List.mem_cons]
    rintro (z | z)
    · exact h1 (by rw [← z]; exact h4)
    · exact nd_take h2 h3 z
theorem while_two {t : M Bool} {body : MS} (I : Nat → Cells → Prop) (E : Cells → Prop) (Rt : D → Cells → Prop) (h : ∀ (m : Nat) (ρ : Cells), I m ρ → ∃ b ρ1, t ρ = .ok b ρ1 ∧ (b = false → E ρ1) ∧ (b = true → (∃ ρ2 m', body ρ1 = .next ρ2 ∧ m' < m ∧ I m' ρ2) ∨ ∃ d ρ2, body ρ1 = .ret d ρ2 ∧ Rt d ρ2)) :
    ∀ (n m : Nat) (ρ : Cells), m < n → I m ρ → ∃ ρ', (whileM t body n ρ = .next ρ' ∧ E ρ') ∨ ∃ d, whileM t body n ρ = .ret d ρ' ∧ Rt d ρ'
  | 0, _, _, hn, _ => by omega
  | n + 1, m, ρ, hn, hI => by
    obtain ⟨b, ρ1, h1, h2, h3⟩ := h m ρ hI
    unfold whileM
    simp only [h1]
    cases b with
    | false => exact ⟨ρ1, .inl ⟨by simp, h2 rfl⟩⟩
    | true =>
      rcases h3 rfl with ⟨ρ2, m', h4, h5, h6⟩ | ⟨d, ρ2, h4, h5⟩
      · obtain ⟨ρ', e⟩ := while_two I E Rt h n m' ρ2 (by omega) h6
        exact ⟨ρ', by simpa [h4] using e⟩
      · exact ⟨ρ2, .inr ⟨d, by simp [h4], h5⟩⟩
theorem sIx_last (w : List Int) (x : Int) : sIx (.lst ((w ++ [x]).map .int)) (.int (-1)) = some (.int x) := by
  have h : atI ((w ++ [x]).map D.int) (-1) = some (.int x) := by
    unfold atI ixN
    rw [if_neg (by omega)]
    rw [if_pos (by rw [List.length_map, List.length_append, List.length_singleton]; omega)]
    have z : ((((w ++ [x]).map D.int).length : Int) + (-1)).toNat = w.length := by
      rw [List.length_map, List.length_append, List.length_singleton]
      omega
    simp only [Option.bind_some, z]
    simp
    rw [show (-1 + ((w.length : Int) + 1)).toNat = w.length by omega]
    simp
  exact h
theorem sIx_zero (a : Int) (l : List Int) : sIx (.lst ((a :: l).map .int)) (.int 0) = some (.int a) := by
  have := atI_nat ((a :: l).map D.int) 0
  exact this
theorem sCut_last (w : List Int) (x : Int) : sCut (.lst ((w ++ [x]).map .int)) none (some (-1)) = some (.lst (w.map .int)) := by
  have h : cutD ((w ++ [x]).map D.int) none (some (-1)) = w.map .int := by
    unfold cutD
    rw [HT.sIx_none, Nat.sub_zero, List.drop_zero]
    have z : HT.sIx ((w ++ [x]).map D.int).length ((w ++ [x]).map D.int).length (some (-1)) = w.length := by
      rw [List.length_map, List.length_append, List.length_singleton]
      simp [HT.sIx]
      omega
    rw [z]
    simp
  show some (D.lst _) = _
  rw [h]
theorem flatE (v : Int) : flatD (.int v) = true := rfl
theorem sLix_in {v : Int} {r : List Int} (h : v ∈ r) : sLix (.lst (r.map .int)) [.int v] = some (.int (r.idxOf v)) := by
  unfold sLix sIndex
  simp only [itemsOf, Option.bind_some, flatE, flat_ints, Bool.and_self, if_true, idxF_ints v h, Option.map_some]
theorem mAsg_ok {f : M D} {g : TgM} {ρ ρ1 ρ2 : Cells} {d : D} (h : f ρ = .ok d ρ1) (h2 : g d ρ1 = some ρ2) : mAsg f g ρ = .next ρ2 := by
  unfold mAsg mDo
  rw [h]
  show (match g d ρ1 with | some ρ2 => OutS.next ρ2 | none => OutS.stuck) = _
  rw [h2]
theorem so_far : PyData.strOk "far" = true := by
  unfold PyData.strOk
  rw [← Array.all_toList]
  decide
theorem so_held : PyData.strOk "held" = true := by
  unfold PyData.strOk
  rw [← Array.all_toList]
  decide
theorem so_order : PyData.strOk "order" = true := by
  unfold PyData.strOk
  rw [← Array.all_toList]
  decide
theorem so_ring : PyData.strOk "ring" = true := by
  unfold PyData.strOk
  rw [← Array.all_toList]
  decide
theorem callF2 {F : Fn} {f g : M D} {ρ : Cells} {a b d : D} (h1 : f ρ = .ok a ρ) (h2 : g ρ = .ok b ρ) (h : F [a, b] = .ret d []) : mCallF F [.dat f, .dat g] ρ = .ok d ρ := by
  unfold mCallF
  simp [preL, M.bind, Opn.pre, h1, h2, Out.andThen, M.pure, rdA, Opn.rd, setOuts, ownSlots, h]
theorem callF3 {F : Fn} {f g k : M D} {ρ : Cells} {a b c d : D} (h1 : f ρ = .ok a ρ) (h2 : g ρ = .ok b ρ) (h3 : k ρ = .ok c ρ) (h : F [a, b, c] = .ret d []) : mCallF F [.dat f, .dat g, .dat k] ρ = .ok d ρ := by
  unfold mCallF
  simp [preL, M.bind, Opn.pre, h1, h2, h3, Out.andThen, M.pure, rdA, Opn.rd, setOuts, ownSlots, h]
theorem exprF {f : M D} {ρ ρ1 : Cells} {d : D} (h : f ρ = .ok d ρ1) : mExpr f ρ = .next ρ1 := by
  unfold mExpr mDo
  rw [h]
def onI (g : Int → Int) : D → D
  | .int i => .int (g i)
  | _ => .non
theorem map_onI (g : Int → Int) (l : List Int) : (l.map D.int).map (onI g) = (l.map g).map .int := by
  rw [List.map_map, List.map_map]
  rfl
theorem mTrue_dd {f : M D} {ρ ρ1 : Cells} {l : List Int} (h : f ρ = .ok (D.lst (List.map D.int l)) ρ1) : mB (mOp2 sEq (.dat f) (.dat (mLst []))) ρ = .ok (decide (l = [])) ρ1 := by
  refine mB_ok (mOp2_dd h (show mLst [] _ = .ok (.lst (([] : List Int).map .int)) _ from rfl) ?_)
  rw [sEq_lst]
theorem mNe_dd {f : M D} {ρ ρ1 : Cells} {l : List Int} (h : f ρ = .ok (D.lst (List.map D.int l)) ρ1) : mB (mOp2 sNe (.dat f) (.dat (mLst []))) ρ = .ok (!decide (l = [])) ρ1 := by
  refine mB_ok (mOp2_dd h (show mLst [] _ = .ok (.lst (([] : List Int).map .int)) _ from rfl) ?_)
  rw [sNe_lst]
theorem mIfN {f : M D} {m : MS} {ρ ρ1 : Cells} (h : f ρ = .ok .non ρ1) : mIfS (mB (mOp2 sNotN (.dat f) (.dat (M.pure .non)))) m mSkip ρ = .next ρ1 := by
  rw [mIfS_f (mB_ok (mOp2_dd h (show M.pure D.non ρ1 = .ok .non ρ1 from rfl) rfl))]
  rfl
theorem mIfNs {f : M D} {m : MS} {d : D} {ρ ρ1 : Cells} (h : f ρ = .ok d ρ1) (hd : sNotN d .non = some (.bl true)) : mIfS (mB (mOp2 sNotN (.dat f) (.dat (M.pure .non)))) m mSkip ρ = m ρ1 := by
  rw [mIfS_t (mB_ok (mOp2_dd h (show M.pure D.non ρ1 = .ok .non ρ1 from rfl) hd))]
def mx (l : List Int) : Int := (maxI (l ++ [0])).getD 0
theorem maxI_mx (l : List Int) : maxI (l ++ [0]) = some (mx l) := by
  unfold mx
  cases l with
  | nil => rfl
  | cons a l => rfl
theorem mx_mem (l : List Int) : mx l ∈ l ++ [0] ∧ ∀ x ∈ l ++ [0], x ≤ mx l := by
  cases l with
  | nil => exact ⟨by simp [mx, maxI], by simp [mx, maxI]⟩
  | cons a l => exact foldl_max (l ++ [0]) a
theorem mx_le {l : List Int} {k : Int} (h0 : 0 ≤ k) : mx l ≤ k ↔ ∀ x ∈ l, x ≤ k := by
  obtain ⟨h1, h2⟩ := mx_mem l
  constructor
  · intro h x hx
    exact Int.le_trans (h2 x (List.mem_append_left _ hx)) h
  · intro h
    rcases List.mem_append.mp h1 with z | z
    · exact h _ z
    · have z : mx l = 0 := by simpa using z
      omega
theorem sNe_str {a b : Str} (ha : PyData.strOk a = true) (hb : PyData.strOk b = true) : sNe (.str a) (.str b) = some (.bl (!decide (a = b))) := by
  simp [sNe, plain, toPy, PyData.canLay0, PyData.depth, eqD, PyData.eqv, ha, hb]
  by_cases h : a = b
  · subst h; simp
  · simp [h]
theorem sEq_str {a b : Str} (ha : PyData.strOk a = true) (hb : PyData.strOk b = true) : sEq (.str a) (.str b) = some (.bl (decide (a = b))) := by
  simp [sEq, plain, toPy, PyData.canLay0, PyData.depth, eqD, PyData.eqv, ha, hb]
  by_cases h : a = b
  · subst h; simp
  · simp [h]
theorem sNe_bl (a b : Bool) : sNe (.bl a) (.bl b) = some (.bl (!decide (a = b))) := by
  cases a <;> cases b <;> rfl
theorem callO1 {F : Fn} {W W' d : D} {ρ : Cells} (h : F [W] = .ret d [W']) : mCallF F [.own 0] (.own W :: ρ) = .ok d (.own W' :: ρ) := by
  unfold mCallF
  simp [preL, cellD, M.bind, Opn.pre, Out.andThen, M.pure, rdA, Opn.rd, setOuts, ownSlots, h]
theorem callO2 {F : Fn} {f : M D} {W W1 W' a d : D} {ρ : Cells} (h1 : f (.own W :: ρ) = .ok a (.own W1 :: ρ)) (h : F [W1, a] = .ret d [W']) : mCallF F [.own 0, .dat f] (.own W :: ρ) = .ok d (.own W' :: ρ) := by
  unfold mCallF
  simp [preL, cellD, M.bind, Opn.pre, h1, Out.andThen, M.pure, rdA, Opn.rd, setOuts, ownSlots, h]
theorem callO3 {F : Fn} {f g : M D} {W W1 W2 W' a b d : D} {ρ : Cells} (h1 : f (.own W :: ρ) = .ok a (.own W1 :: ρ)) (h2 : g (.own W1 :: ρ) = .ok b (.own W2 :: ρ)) (h : F [W2, a, b] = .ret d [W']) : mCallF F [.own 0, .dat f, .dat g] (.own W :: ρ) = .ok d (.own W' :: ρ) := by
  unfold mCallF
  simp [preL, cellD, M.bind, Opn.pre, h1, h2, Out.andThen, M.pure, rdA, Opn.rd, setOuts, ownSlots, h]
theorem make3 {F : Fn} {f g j : M D} {ρ ρ1 : Cells} {a b d : D} {ns : List Str} {es : List D} (h1 : f ρ = .ok a ρ) (h2 : g ρ = .ok b ρ) (h3 : j ρ = .ok d ρ1) (h : F [.rcd [] [], a, b, d] = .ret .non [.rcd ns es]) : mMake F [f, g, j] ρ = .ok (.rcd ns es) ρ1 := by
  unfold mMake M.bind
  simp only [seqM, M.bind, h1, h2, h3, Out.andThen, M.pure, h]
theorem callKo {F : Fn} {f g j : M D} {ρ : Cells} {a b c d : D} {o : List D} (h1 : f ρ = .ok a ρ) (h2 : g ρ = .ok b ρ) (h3 : j ρ = .ok c ρ) (h : F [a, b, c] = .ret d o) : mCallK F (fun ds es => ds ++ es) [f, g] [j] ρ = .ok d ρ := by
  unfold mCallK M.bind
  simp only [seqM, M.bind, h1, h2, h3, Out.andThen, M.pure, appF, List.cons_append, List.nil_append, h]
theorem mOr_ff {f g : M Bool} {ρ ρ1 ρ2 : Cells} (h1 : f ρ = .ok false ρ1) (h2 : g ρ1 = .ok false ρ2) : mOr f g ρ = .ok false ρ2 := by
  unfold mOr M.bind
  rw [h1]
  exact h2
theorem call1_ok {sem : List D → Option D} {f g : M D} {ρ : Cells} {a b d : D} (h1 : f ρ = .ok a ρ) (h2 : g ρ = .ok b ρ) (h : sem [a, b] = some d) : mCall sem [.dat f, .dat g] ρ = .ok d ρ := by
  unfold mCall
  simp [preL, M.bind, Opn.pre, h1, h2, Out.andThen, M.pure, rdLM, Opn.rd, rdL, rdM, M.lift, h]
theorem pow18 : sPow (.int 10) (.int 18) = some (.int (10 ^ 18)) := by
  show (if (0 : Int) ≤ 18 ∧ (18 : Int) ≤ 1000000 ∧ (10 : Int).natAbs < 2 ^ 64 then some (D.int (10 ^ (18 : Int).toNat)) else none) = _
  rw [if_pos ⟨by decide, by decide, by decide⟩]
  rfl
theorem callN2 {F : Fn} {f g : M D} {ρ : Cells} {a b d : D} {o : List D} (h1 : f ρ = .ok a ρ) (h2 : g ρ = .ok b ρ) (h : F [a, b] = .ret d o) : mCallN F f [g] ρ = .ok d ρ := by
  unfold mCallN M.bind
  simp only [h1, Out.andThen, seqM, M.bind, h2, M.pure, h]
theorem call1 {sem : List D → Option D} {f : M D} {ρ : Cells} {a d : D} (h1 : f ρ = .ok a ρ) (h : sem [a] = some d) : mCall sem [.dat f] ρ = .ok d ρ := by
  unfold mCall
  simp [preL, M.bind, Opn.pre, h1, Out.andThen, M.pure, rdLM, Opn.rd, rdL, rdM, M.lift, h]
theorem lst3 {f g k : M D} {ρ : Cells} {a b d : D} (h1 : f ρ = .ok a ρ) (h2 : g ρ = .ok b ρ) (h3 : k ρ = .ok d ρ) : mLst [f, g, k] ρ = .ok (.lst [a, b, d]) ρ := by
  unfold mLst M.bind
  simp only [seqM, M.bind, h1, h2, h3, Out.andThen, M.pure]
theorem not_ff {f : M Bool} {ρ ρ1 : Cells} (h : f ρ = .ok true ρ1) : mNot f ρ = .ok false ρ1 := by
  unfold mNot M.bind
  rw [h]
  rfl
end Fx
set_option Elab.async false
set_option linter.all false
set_option maxRecDepth 100000
set_option maxHeartbeats 1000000
namespace Fx
open PySem L2
/-! ### loops that gather -/
theorem loop_ext {α : Type} {g : TgM} {body : MS} (St : List D → α → Cells) (f : D → List D) (N : Nat) : ∀ (ds : List D) (L : List D) (c : α), L.length + (ds.flatMap f).length ≤ N →
    (∀ d ∈ ds, ∀ (L : List D) (c : α), L.length + (f d).length ≤ N → ∃ ρ1 c', g d (St L c) = some ρ1 ∧ body ρ1 = .next (St (L ++ f d) c')) →
    ∃ c', loopM g body ds (St L c) = .next (St (L ++ ds.flatMap f) c')
  | [], L, c, _, _ => ⟨c, by rw [List.flatMap_nil, List.append_nil]; rfl⟩
  | d :: ds, L, c, hN, h => by
    rw [List.flatMap_cons, List.length_append] at hN
    obtain ⟨ρ1, c', h1, h2⟩ := h d List.mem_cons_self L c (by omega)
    obtain ⟨c2, e⟩ := loop_ext St f N ds (L ++ f d) c' (by rw [List.length_append]; omega) fun x hx => h x (List.mem_cons_of_mem _ hx)
    refine ⟨c2, ?_⟩
    rw [List.flatMap_cons, ← List.append_assoc, ← e]
    conv => lhs; unfold loopM
    simp only [h1, h2]
theorem loop_app {α : Type} {g : TgM} {body : MS} (St : List D → α → Cells) (f : D → D) (ds : List D) (c : α) (h : ∀ d ∈ ds, ∀ (L : List D) (c : α), L.length < ds.length → ∃ ρ1 c', g d (St L c) = some ρ1 ∧ body ρ1 = .next (St (L ++ [f d]) c')) :
    ∃ c', loopM g body ds (St [] c) = .next (St (ds.map f) c') := by
  have hf : ∀ l : List D, (l.flatMap fun d => [f d]) = l.map f := fun l => by
    induction l with
    | nil => rfl
    | cons a l ih => rw [List.flatMap_cons, ih]; rfl
  obtain ⟨c', e⟩ := loop_ext (body := body) (g := g) St (fun d => [f d]) ds.length ds [] c (by rw [hf]; simp) (fun d hd L c hl => h d hd L c (by have : L.length + 1 ≤ ds.length := hl; omega))
  rw [hf] at e
  exact ⟨c', by simpa using e⟩
theorem app_ok {i : Nat} {f : M D} {ρ : Cells} {e : D} {L : List D} (h0 : ρ[i]? = some (.own (.lst L))) (h1 : f ρ = .ok e ρ) (hl : L.length < 16777216) : mExpr (mMethWR wAppend i [f]) ρ = .next (ρ.set i (.own (.lst (L ++ [e])))) := by
  have h2 : wAppend (.lst L) [e] = some (.non, .lst (L ++ [e])) := if_pos hl
  exact exprF (mMethWR1 h0 h1 h0 h2)
theorem ext_ok {i : Nat} {f : M D} {ρ : Cells} {L Ms : List D} (h0 : ρ[i]? = some (.own (.lst L))) (h1 : f ρ =   .ok (.lst Ms) ρ) (hl : L.length + Ms.length ≤ 16777216) : mExpr (mMethW wExtend i [.dat f]) ρ = .next (ρ.set i (.own (.lst (L ++ Ms)))) := by
  have h2 : wExtend (.lst L) [.lst Ms] = some (.non, .lst (L ++ Ms)) := if_pos hl
  refine exprF (d := .non) ?_
  unfold mMethW
  simp [M.bind, ownAt, h0, Out.andThen, isLst, preL, Opn.pre, h1, rdLM, Opn.rd, rdL, M.pure, M.lift, h2, setOwn, rdM]
theorem range_ok {f : M D} {ρ : Cells} {j : Int} (h : f ρ = .ok (.int j) ρ) (h1 : -16777216 ≤ j) (h2 : j ≤ 16777216) : mRange1 f ρ = .ok ((rng j.toNat).map .int) ρ := by
  unfold mRange1 M.bind
  rw [h]
  show (if j ≤ 16777216 ∧ -16777216 ≤ j then M.pure (rangeD 0 j.toNat) else M.stuck) _ = _
  rw [if_pos ⟨h2, h1⟩, rng_D]
  rfl
theorem flatMap_map_int {β : Type} (f : D → List β) : ∀ l : List Int, (l.map D.int).flatMap f = l.flatMap fun i => f (.int i)
  | [] => rfl
  | a :: l => by rw [List.map_cons, List.flatMap_cons, List.flatMap_cons, flatMap_map_int f l]
section
variable {n t k f : Int} {rows : List (List Int)}
/-! ### sizes -/
theorem inR_small {i : Int} (h0 : 0 ≤ i) (h1 : i ≤ 1000000) : inR i = true := by
  simp [inR]
  omega
theorem e_check_sizes (n1 : 1 ≤ n) (n2 : n ≤ 30) (k1 : 0 ≤ k) (k2 : k ≤ 60) (f1 : 0 ≤ f) (f2 : f ≤ n - 1) : m_check_sizes [.int n, .int k, .int f] = .ret .non [] := by
  simp [m_check_sizes, b_check_sizes, mkFn, mSeq, mIfS, mDo, mRet, mRetN, mSkip, mExpr, mAsg, mAnd, mOr, mNot, mAndV, mOrV, mNotV, mB, mIf, mV, mNeg, mCall, mOp2, mTup, mLst, mMeth, mSl, mPart, preL, seqM, M.bind, M.pure, M.lift, M.stuck, Out.andThen, mVar, Opn.pre, Opn.rd, rdM, rdLM, rdL, cellD, initC, initAt, outsOf, outAt, gNm, gTp, gNms, mNew, mFrz, mPar, mFld, mCallF, mCallK, mCallN, appF, rdA, setOuts, ownSlots, ownPos, mSeqI, mEnum, mRange1, itemsOf, e_is_from, sSub, n1, n2, k1, k2, f1, f2]
theorem e_lwl (n1 : 1 ≤ n) (n2 : n ≤ 30) (k1 : 0 ≤ k) (k2 : k ≤ 60) (f1 : 0 ≤ f) (f2 : f ≤ n - 1) : m_least_worst_load [.int n, .int k, .int f] = .ret (.int ((k * (f + 1) + n - 1).fdiv n)) [] := by
  have h := e_check_sizes n1 n2 k1 k2 f1 f2
  have h2 : sMul (.int k) (.int (f + 1)) = some (.int (k * (f + 1))) := sMul_l (inR_small k1 (by omega))
  have h3 : sFdiv (.int (k * (f + 1) + n - 1)) (.int n) = some (.int ((k * (f + 1) + n - 1).fdiv n)) := if_pos ⟨by omega, by omega⟩
  simp [m_least_worst_load, b_least_worst_load, mkFn, mSeq, mIfS, mDo, mRet, mRetN, mSkip, mExpr, mAsg, mAnd, mOr, mNot, mAndV, mOrV, mNotV, mB, mIf, mV, mNeg, mCall, mOp2, mTup, mLst, mMeth, mSl, mPart, preL, seqM, M.bind, M.pure, M.lift, M.stuck, Out.andThen, mVar, Opn.pre, Opn.rd, rdM, rdLM, rdL, cellD, initC, initAt, outsOf, outAt, gNm, gTp, gNms, mNew, mFrz, mPar, mFld, mCallF, mCallK, mCallN, appF, rdA, setOuts, ownSlots, ownPos, mSeqI, mEnum, mRange1, itemsOf, h, sAdd, sSub, h2, h3]
/-! ### a fair farm -/
def frow (n sz i : Int) : List Int := (rng sz.toNat).map fun j => (i * sz + j).fmod n
def onL (g : Int → D) : D → D
  | .int i => g i
  | _ => .non
theorem map_onL (g : Int → D) (l : List Int) : (l.map D.int).map (onL g) = l.map g := by
  rw [List.map_map]
  rfl
theorem f_row (n1 : 1 ≤ n) (n2 : n ≤ 30) (f1 : 0 ≤ f) (f2 : f ≤ n - 1) {i : Int} (i0 : 0 ≤ i) (i1 : i < 1000) (L : List D) : (mCall sTuple [(.dat (mLc (mRange1 (mVar 3)) (gNm 6) (M.pure true) (mOp2 sMod (.dat (mOp2 sAdd (.dat (mOp2 sMul (.dat (mVar 5)) (.dat (mVar 3)))) (.dat (mVar 6)))) (.dat (mVar 0))) [6]))]) [.dat (.int n), .dat (.int k), .dat (.int f), .dat (.int (f + 1)), .own (.lst L), .dat (.int i), .no] = .ok (rowD (frow n (f + 1) i)) [.dat (.int n), .dat (.int k), .dat (.int f), .dat (.int (f + 1)), .own (.lst L), .dat (.int i), .no] := by
  have h : mLc (mRange1 (mVar 3)) (gNm 6) (M.pure true) (mOp2 sMod (.dat (mOp2 sAdd (.dat (mOp2 sMul (.dat (mVar 5)) (.dat (mVar 3)))) (.dat (mVar 6)))) (.dat (mVar 0))) [6] [.dat (.int n), .dat (.int k), .dat (.int f), .dat (.int (f + 1)), .own (.lst L), .dat (.int i), .no] = .ok (D.lst (List.map D.int (frow n (f + 1) i))) [.dat (.int n), .dat (.int k), .dat (.int f), .dat (.int (f + 1)), .own (.lst L), .dat (.int i), .no] := by
    rw [mLc_pure (ds := (rng (f + 1).toNat).map .int) (fun _ => true) (onI fun j => (i * (f + 1) + j).fmod n) (by exact range_ok rfl (by omega) (by omega)) (by simp [isOwn]) (fun e he => by
      obtain ⟨j, hj, rfl⟩ := List.mem_map.mp he
      have h2 : sMul (.int i) (.int (f + 1)) = some (.int (i * (f + 1))) := sMul_l (inR_small i0 (by omega))
      have h3 : n ≠ 0 := by omega
      refine ⟨[.dat (.int n), .dat (.int k), .dat (.int f), .dat (.int (f + 1)), .own (.lst L), .dat (.int i), .dat (.int j)], by simp [gNm, wipeC], by simp [mkFn, mSeq, mIfS, mDo, mRet, mRetN, mSkip, mExpr, mAsg, mAnd, mOr, mNot, mAndV, mOrV, mNotV, mB, mIf, mV, mNeg, mCall, mOp2, mTup, mLst, mMeth, mSl, mPart, preL, seqM, M.bind, M.pure, M.lift, M.stuck, Out.andThen, mVar, Opn.pre, Opn.rd, rdM, rdLM, rdL, cellD, initC, initAt, outsOf, outAt, gNm, gTp, gNms, mNew, mFrz, mPar, mFld, mCallF, mCallK, mCallN, appF, rdA, setOuts, ownSlots, ownPos, mSeqI, mEnum, mRange1, itemsOf], fun _ => ?_, by simp [wipeC]⟩
      simp [mkFn, mSeq, mIfS, mDo, mRet, mRetN, mSkip, mExpr, mAsg, mAnd, mOr, mNot, mAndV, mOrV, mNotV, mB, mIf, mV, mNeg, mCall, mOp2, mTup, mLst, mMeth, mSl, mPart, preL, seqM, M.bind, M.pure, M.lift, M.stuck, Out.andThen, mVar, Opn.pre, Opn.rd, rdM, rdLM, rdL, cellD, initC, initAt, outsOf, outAt, gNm, gTp, gNms, mNew, mFrz, mPar, mFld, mCallF, mCallK, mCallN, appF, rdA, setOuts, ownSlots, ownPos, mSeqI, mEnum, mRange1, itemsOf, h2, sAdd, sMod, h3, onI])]
    rw [List.filter_eq_self.mpr (fun _ _ => rfl), map_onI]
    rfl
  exact call1 h rfl
theorem frow_ok (n1 : 1 ≤ n) (f1 : 0 ≤ f) (f2 : f ≤ n - 1) (n2 : n ≤ 30) (i : Int) : RowOk n (frow n (f + 1) i) := by
  have hl : (frow n (f + 1) i).length = (f + 1).toNat := by
    unfold frow
    rw [List.length_map, rng_len]
  refine ⟨fun z => ?_, fun v hv => ?_, ?_, by omega⟩
  · rw [z] at hl
    simp at hl
    omega
  · obtain ⟨j, hj, rfl⟩ := List.mem_map.mp hv
    exact fmod_in (by omega)
  · unfold frow
    rw [List.Nodup, List.pairwise_map]
    refine List.Pairwise.imp_of_mem (fun {a b} ha hb hab => ?_) (rng_nd _)
    obtain ⟨a0, a1⟩ := rng_mem ha
    obtain ⟨b0, b1⟩ := rng_mem hb
    intro e
    rw [Int.fmod_eq_emod_of_nonneg _ (by omega), Int.fmod_eq_emod_of_nonneg _ (by omega)] at e
    have e2 := Int.emod_eq_emod_iff_emod_sub_eq_zero.mp e
    have e3 : i * (f + 1) + a - (i * (f + 1) + b) = a - b := by omega
    rw [e3] at e2
    obtain ⟨c, hc⟩ := Int.dvd_of_emod_eq_zero e2
    rcases Int.lt_or_le c 0 with z | z
    · have : n * c ≤ n * (-1) := Int.mul_le_mul_of_nonneg_left (by omega) (by omega)
      omega
    · rcases Int.lt_or_le 0 c with z2 | z2
      · have : n * 1 ≤ n * c := Int.mul_le_mul_of_nonneg_left (by omega) (by omega)
        omega
      · have : c = 0 := by omega
        subst this
        rw [Int.mul_zero] at hc
        omega
def frows (n k sz : Int) : List (List Int) := (rng k.toNat).map (frow n sz)
theorem frows_farm (n1 : 1 ≤ n) (n2 : n ≤ 30) (k1 : 0 ≤ k) (k2 : k ≤ 60) (f1 : 0 ≤ f) (f2 : f ≤ n - 1) : FarmOk n (frows n k (f + 1)) := by
  refine ⟨n1, n2, ?_, fun r hr => ?_⟩
  · unfold frows
    rw [List.length_map, rng_len]
    omega
  · obtain ⟨i, hi, rfl⟩ := List.mem_map.mp hr
    exact frow_ok n1 f1 f2 n2 i
theorem e_fair (n1 : 1 ≤ n) (n2 : n ≤ 30) (k1 : 0 ≤ k) (k2 : k ≤ 60) (f1 : 0 ≤ f) (f2 : f ≤ n - 1) : m_fair_farm [.int n, .int k, .int f] = .ret (farmD n (frows n k (f + 1)) f) [] := by
  have h := e_check_sizes n1 n2 k1 k2 f1 f2
  have hF := frows_farm n1 n2 k1 k2 f1 f2
  have h2 := e_make hF.n1 hF.n2 hF.len hF.row f1 (show f ≤ n by omega)
  obtain ⟨c', e⟩ := loop_app (g := gNm 5) (body := mExpr (mMethWR wAppend 4 [(mCall sTuple [(.dat (mLc (mRange1 (mVar 3)) (gNm 6) (M.pure true) (mOp2 sMod (.dat (mOp2 sAdd (.dat (mOp2 sMul (.dat (mVar 5)) (.dat (mVar 3)))) (.dat (mVar 6)))) (.dat (mVar 0))) [6]))])])) (fun L c => [.dat (.int n), .dat (.int k), .dat (.int f), .dat (.int (f + 1)), .own (.lst L), c, .no]) (onL fun i => rowD (frow n (f + 1) i)) ((rng k.toNat).map .int) .no (fun d hd L c hl => by
    obtain ⟨i, hi, rfl⟩ := List.mem_map.mp hd
    obtain ⟨i0, i1⟩ := rng_mem hi
    rw [List.length_map, rng_len] at hl
    exact ⟨[.dat (.int n), .dat (.int k), .dat (.int f), .dat (.int (f + 1)), .own (.lst L), .dat (.int i), .no], .dat (.int i), rfl, app_ok rfl (f_row n1 n2 f1 f2 i0 (by omega) L) (by omega)⟩)
  have h3 : ((rng k.toNat).map D.int).map (onL fun i => rowD (frow n (f + 1) i)) = (frows n k (f + 1)).map rowD := by
    rw [map_onL]
    unfold frows
    rw [List.map_map]
    rfl
  rw [h3] at e
  have s1 : mExpr (mCallF m_check_sizes [(.dat (mVar 0)), (.dat (mVar 1)), (.dat (mVar 2))]) [.dat (.int n), .dat (.int k), .dat (.int f), .no, .no, .no, .no] = .next [.dat (.int n), .dat (.int k), .dat (.int f), .no, .no, .no, .no] := exprF (callF3 rfl rfl rfl h)
  have fin : b_fair_farm [.dat (.int n), .dat (.int k), .dat (.int f), .no, .no, .no, .no] = .ret (farmD n (frows n k (f + 1)) f) [.dat (.int n), .dat (.int k), .dat (.int f), .dat (.int (f + 1)), .dat (.lst ((frows n k (f + 1)).map rowD)), c', .no] := by
    unfold b_fair_farm
    rw [mSeq_next s1]
    rw [mSeq_next (ρ' := [.dat (.int n), .dat (.int k), .dat (.int f), .dat (.int (f + 1)), .no, .no, .no]) (by exact mAsg_ok (mOp2_dd (x := .int f) (y := .int 1) rfl rfl rfl) rfl)]
    rw [mSeq_next (ρ' := [.dat (.int n), .dat (.int k), .dat (.int f), .dat (.int (f + 1)), .own (.lst []), .no, .no]) (by rfl)]
    rw [mSeq_next (by rw [mFor_next (ds := (rng k.toNat).map .int) (ρ1 := [.dat (.int n), .dat (.int k), .dat (.int f), .dat (.int (f + 1)), .own (.lst []), .no, .no]) (by exact range_ok (j := k) rfl (by omega) (by omega))]; exact e)]
    show mRet (mMake m_Farmdd_initdd [(mVar 0), (mVar 4), (mVar 2)]) [.dat (.int n), .dat (.int k), .dat (.int f), .dat (.int (f + 1)), .dat (.lst ((frows n k (f + 1)).map rowD)), c', .no] = _
    unfold mRet mDo
    rw [make3 (f := mVar 0) (g := mVar 4) (j := mVar 2) rfl rfl rfl h2]
    rfl
  have h' : b_fair_farm (initC 7 [] [.int n, .int k, .int f]) = .ret (farmD n (frows n k (f + 1)) f) [.dat (.int n), .dat (.int k), .dat (.int f), .dat (.int (f + 1)), .dat (.lst ((frows n k (f + 1)).map rowD)), c', .no] := fin
  unfold m_fair_farm
  rw [mkFn_ret h']
  rfl
end
end Fx
set_option Elab.async false
set_option linter.all false
set_option maxRecDepth 100000
set_option maxHeartbeats 1000000
namespace Fx
open PySem L2
section
variable {n t v : Int} {rows : List (List Int)}
def nearR (t : Int) (r : List Int) : List Int := r.take (t + 1).toNat
theorem cutN (l : List Int) {j : Int} (h : 0 ≤ j) : sCut (rowD l) none (some j) = some (rowD (l.take j.toNat)) := by
  simp [sCut, rowD, cut_take' _ _ h, List.map_take]
theorem e_near {i : Nat} {r : List Int} (hr : rows[i]? = some r) (ht : 0 ≤ t) : m_near [farmD n rows t, .int i] = .ret (rowD (nearR t r)) [] := by
  have h1 := ix_row hr
  have h2 := cutN r (j := t + 1) (by omega)
  simp [m_near, b_near, mkFn, mSeq, mIfS, mDo, mRet, mRetN, mSkip, mExpr, mAsg, mAnd, mOr, mNot, mAndV, mOrV, mNotV, mB, mIf, mV, mNeg, mCall, mOp2, mTup, mLst, mMeth, mSl, mPart, preL, seqM, M.bind, M.pure, M.lift, M.stuck, Out.andThen, mVar, Opn.pre, Opn.rd, rdM, rdLM, rdL, cellD, initC, initAt, outsOf, outAt, gNm, gTp, gNms, mNew, mFrz, mPar, mFld, mCallF, mCallK, mCallN, appF, rdA, setOuts, ownSlots, ownPos, mSeqI, mEnum, mRange1, itemsOf, farmD, lk_rows, lk_most, h1, sAdd, h2, nearR]
/-! ### one server -/
theorem e_fbs (v1 : 0 ≤ v) (v2 : v ≤ n - 1) : m_first_bad_server [farmD n rows t, .tup [.int v]] = .ret .non [] := by
  have h1 : sCut (.tup [.int v]) none (some 0) = some (.tup []) := rfl
  have h2 : sIn (.int v) (.tup []) = some (.bl false) := by
    have := sIn_tup v []
    simpa using this
  have h3 : mIfS (mOr (mNot (mB (mCallF m_is_from [(.dat (mVar 3)), (.dat (M.pure (.int 0))), (.dat (mOp2 sSub (.dat (mFld (mVar 0) "many")) (.dat (M.pure (.int 1)))))]))) (mB (mOp2 sIn (.dat (mVar 3)) (.dat (mSl sCut (.dat (mVar 1)) none (some (mVar 2))))))) (mRet (mVar 2)) mSkip [.dat (farmD n rows t), .dat (.tup [.int v]), .dat (.int 0), .dat (.int v)] = .next [.dat (farmD n rows t), .dat (.tup [.int v]), .dat (.int 0), .dat (.int v)] := by
    simp [mkFn, mSeq, mIfS, mDo, mRet, mRetN, mSkip, mExpr, mAsg, mAnd, mOr, mNot, mAndV, mOrV, mNotV, mB, mIf, mV, mNeg, mCall, mOp2, mTup, mLst, mMeth, mSl, mPart, preL, seqM, M.bind, M.pure, M.lift, M.stuck, Out.andThen, mVar, Opn.pre, Opn.rd, rdM, rdLM, rdL, cellD, initC, initAt, outsOf, outAt, gNm, gTp, gNms, mNew, mFrz, mPar, mFld, mCallF, mCallK, mCallN, appF, rdA, setOuts, ownSlots, ownPos, mSeqI, mEnum, mRange1, itemsOf, farmD, lk_many, sSub, e_is_from, v1, v2, h1, h2]
  have fin : b_first_bad_server [.dat (farmD n rows t), .dat (.tup [.int v]), .no, .no] = .ret .non [.dat (farmD n rows t), .dat (.tup [.int v]), .dat (.int 0), .dat (.int v)] := by
    unfold b_first_bad_server
    rw [mSeq_next (ρ' := [.dat (farmD n rows t), .dat (.tup [.int v]), .dat (.int 0), .dat (.int v)]) (by
      rw [mFor_next (ds := [.tup [.int 0, .int v]]) (ρ1 := [.dat (farmD n rows t), .dat (.tup [.int v]), .no, .no]) (by simp [mkFn, mSeq, mIfS, mDo, mRet, mRetN, mSkip, mExpr, mAsg, mAnd, mOr, mNot, mAndV, mOrV, mNotV, mB, mIf, mV, mNeg, mCall, mOp2, mTup, mLst, mMeth, mSl, mPart, preL, seqM, M.bind, M.pure, M.lift, M.stuck, Out.andThen, mVar, Opn.pre, Opn.rd, rdM, rdLM, rdL, cellD, initC, initAt, outsOf, outAt, gNm, gTp, gNms, mNew, mFrz, mPar, mFld, mCallF, mCallK, mCallN, appF, rdA, setOuts, ownSlots, ownPos, mSeqI, mEnum, mRange1, itemsOf, enumD])]
      unfold loopM
      simp only [show gTp [2, 3] (.tup [.int 0, .int v]) [.dat (farmD n rows t), .dat (.tup [.int v]), .no, .no] = some [.dat (farmD n rows t), .dat (.tup [.int v]), .dat (.int 0), .dat (.int v)] from rfl, h3]
      rfl)]
    rfl
  have h' : b_first_bad_server (initC 4 [] [farmD n rows t, .tup [.int v]]) = .ret .non [.dat (farmD n rows t), .dat (.tup [.int v]), .dat (.int 0), .dat (.int v)] := fin
  unfold m_first_bad_server
  rw [mkFn_ret h']
  rfl
/-! ### the greatest load of one server -/
def hasR (t v : Int) (r : List Int) : Bool := decide (v ∈ nearR t r)
def gotD (t v : Int) (r : List Int) : D := if hasR t v r = true then .int v else .non
theorem one_in {l : List Int} (hn : l.Nodup) : l.filter (fun x => decide (x ∈ [v])) = if decide (v ∈ l) = true then [v] else [] := by
  induction l with
  | nil => rfl
  | cons a l ih =>
    obtain ⟨h1, h2⟩ := List.nodup_cons.mp hn
    rw [List.filter_cons, ih h2]
    by_cases e : a = v
    · subst e
      simp [h1]
    · have e2 : ¬ v = a := fun z => e z.symm
      simp [e, e2]
def rowI (rows : List (List Int)) (i : Int) : List Int := rows.getD i.toNat []
theorem rowI_all (rows : List (List Int)) : (rng rows.length).map (rowI rows) = rows := by
  apply List.ext_getElem?
  intro i
  unfold rng rowI
  rw [List.map_map, List.getElem?_map]
  by_cases h : i < rows.length
  · rw [List.getElem?_range h]
    simp [List.getD_eq_getElem?_getD, h]
  · rw [List.getElem?_eq_none (by simpa using h), List.getElem?_eq_none (by omega)]
    rfl
theorem g_one (hrow : ∀ r ∈ rows, RowOk n r) (ht : 0 ≤ t) {i : Int} (hi : i ∈ rng rows.length) (L : List D) : (mOp2 sIx (.dat (mOp2 sAdd (.dat (mLc (mSeqI (mCallF m_near [(.dat (mVar 0)), (.dat (mVar 4))])) (gNm 5) (mB (mOp2 sIn (.dat (mVar 5)) (.dat (mVar 1)))) (mVar 5) [5])) (.dat (mLst [(M.pure .non)])))) (.dat (M.pure (.int 0)))) [.dat (farmD n rows t), .dat (.tup [.int v]), .dat .non, .own (.lst L), .dat (.int i), .no] = .ok (gotD t v (rowI rows i)) [.dat (farmD n rows t), .dat (.tup [.int v]), .dat .non, .own (.lst L), .dat (.int i), .no] := by
  obtain ⟨i0, i1⟩ := rng_mem hi
  obtain ⟨j, rfl⟩ : ∃ j : Nat, i = (j : Int) := ⟨i.toNat, by omega⟩
  have hj : j < rows.length := by omega
  have hr : rows[j]? = some (rowI rows (j : Int)) := by
    unfold rowI
    rw [Int.toNat_natCast, List.getD_eq_getElem?_getD, List.getElem?_eq_getElem hj]
    rfl
  generalize rowI rows (j : Int) = r at hr ⊢
  obtain ⟨r1, r2, r3, r4⟩ := hrow r (List.mem_of_getElem? hr)
  have hnd : (nearR t r).Nodup := r3.sublist (List.take_sublist _ _)
  have q := e_near (n := n) hr ht
  have h1 : mLc (mSeqI (mCallF m_near [(.dat (mVar 0)), (.dat (mVar 4))])) (gNm 5) (mB (mOp2 sIn (.dat (mVar 5)) (.dat (mVar 1)))) (mVar 5) [5] [.dat (farmD n rows t), .dat (.tup [.int v]), .dat .non, .own (.lst L), .dat (.int j), .no] = .ok (D.lst (List.map D.int ((nearR t r).filter fun x => decide (x ∈ [v])))) [.dat (farmD n rows t), .dat (.tup [.int v]), .dat .non, .own (.lst L), .dat (.int j), .no] := by
    rw [mLc_pure (ds := (nearR t r).map .int) (ofInt fun x => decide (x ∈ [v])) id (by unfold mSeqI M.bind; rw [callF2 (f := mVar 0) (g := mVar 4) rfl rfl q]; rfl) (by simp [isOwn]) (fun e he => by
      obtain ⟨x, hx, rfl⟩ := List.mem_map.mp he
      have q2 := sIn_tup x [v]
      exact ⟨[.dat (farmD n rows t), .dat (.tup [.int v]), .dat .non, .own (.lst L), .dat (.int j), .dat (.int x)], by simp [gNm, wipeC], mB_ok (mOp2_dd (x := .int x) (y := .tup [.int v]) rfl rfl q2), fun _ => by simp [mkFn, mSeq, mIfS, mDo, mRet, mRetN, mSkip, mExpr, mAsg, mAnd, mOr, mNot, mAndV, mOrV, mNotV, mB, mIf, mV, mNeg, mCall, mOp2, mTup, mLst, mMeth, mSl, mPart, preL, seqM, M.bind, M.pure, M.lift, M.stuck, Out.andThen, mVar, Opn.pre, Opn.rd, rdM, rdLM, rdL, cellD, initC, initAt, outsOf, outAt, gNm, gTp, gNms, mNew, mFrz, mPar, mFld, mCallF, mCallK, mCallN, appF, rdA, setOuts, ownSlots, ownPos, mSeqI, mEnum, mRange1, itemsOf], by simp [wipeC]⟩)]
    rw [filter_int (fun x => decide (x ∈ [v])) _ (fun i => rfl), List.map_id]
  rw [one_in hnd] at h1
  by_cases h : decide (v ∈ nearR t r) = true
  · rw [if_pos h] at h1
    have e : gotD t v r = .int v := if_pos h
    rw [e]
    exact mOp2_dd (mOp2_dd (y := .lst [.non]) h1 rfl rfl) rfl (atI_nat [D.int v, .non] 0)
  · rw [if_neg h] at h1
    have e : gotD t v r = .non := if_neg h
    rw [e]
    exact mOp2_dd (mOp2_dd (y := .lst [.non]) h1 rfl rfl) rfl (atI_nat [D.non] 0)
def loadOf (rows : List (List Int)) (t v : Int) : Nat := (rows.filter (hasR t v)).length
def notNon (d : D) : Bool := !isNon d
theorem got_len : ∀ rows : List (List Int), ((rows.map (gotD t v)).filter notNon).length = loadOf rows t v
  | [] => rfl
  | r :: rows => by
    have ih := got_len rows
    unfold loadOf at ih ⊢
    rw [List.map_cons, List.filter_cons, List.filter_cons]
    by_cases h : hasR t v r = true
    · have e : gotD t v r = .int v := if_pos h
      rw [e, if_pos (show notNon (.int v) = true from rfl), if_pos h, List.length_cons, List.length_cons, ih]
    · have e : gotD t v r = .non := if_neg h
      rw [e, if_neg (show ¬ notNon .non = true by decide), if_neg h, ih]
theorem e_greatest (hF : FarmOk n rows) (ht : 0 ≤ t) (v1 : 0 ≤ v) (v2 : v ≤ n - 1) : ∃ d, m_greatest_load [farmD n rows t, .tup [.int v]] = .ret (.tup [.int (loadOf rows t v), d]) [] := by
  have h60 := hF.len
  obtain ⟨c', e⟩ := loop_app (g := gNm 4) (body := mExpr (mMethWR wAppend 3 [(mOp2 sIx (.dat (mOp2 sAdd (.dat (mLc (mSeqI (mCallF m_near [(.dat (mVar 0)), (.dat (mVar 4))])) (gNm 5) (mB (mOp2 sIn (.dat (mVar 5)) (.dat (mVar 1)))) (mVar 5) [5])) (.dat (mLst [(M.pure .non)])))) (.dat (M.pure (.int 0))))])) (fun L c => [.dat (farmD n rows t), .dat (.tup [.int v]), .dat .non, .own (.lst L), c, .no]) (onL fun i => gotD t v (rowI rows i)) ((rng rows.length).map .int) .no (fun d hd L c hl => by
    obtain ⟨i, hi, rfl⟩ := List.mem_map.mp hd
    rw [List.length_map, rng_len] at hl
    exact ⟨[.dat (farmD n rows t), .dat (.tup [.int v]), .dat .non, .own (.lst L), .dat (.int i), .no], .dat (.int i), rfl, app_ok rfl (g_one hF.row ht hi L) (by omega)⟩)
  have h3 : ((rng rows.length).map D.int).map (onL fun i => gotD t v (rowI rows i)) = rows.map (gotD t v) := by
    rw [map_onL]
    have := congrArg (List.map (gotD t v)) (rowI_all rows)
    rw [List.map_map] at this
    exact this
  rw [h3] at e
  have s1 : mIfS (mNot (mB (mCall sIsi [(.dat (mVar 1)), (.dat (M.pure (.raw (.ty "tuple"))))]))) (mRaise 2 [(mNeg (M.pure (.int 1)))]) mSkip [.dat (farmD n rows t), .dat (.tup [.int v]), .no, .no, .no, .no] = .next [.dat (farmD n rows t), .dat (.tup [.int v]), .no, .no, .no, .no] := by
    have g1 : sIsi [.tup [.int v], .raw (.ty "tuple")] = some (.bl true) := by simp [sIsi, tyName, kit_tt]
    rw [mIfS_f (not_ff (mB_ok (call1_ok (f := mVar 1) (g := M.pure (.raw (.ty "tuple"))) rfl rfl g1)))]
    rfl
  have s2 : mAsg (mCallF m_first_bad_server [(.dat (mVar 0)), (.dat (mVar 1))]) (gNm 2) [.dat (farmD n rows t), .dat (.tup [.int v]), .no, .no, .no, .no] = .next [.dat (farmD n rows t), .dat (.tup [.int v]), .dat .non, .no, .no, .no] := mAsg_ok (callF2 rfl rfl (e_fbs v1 v2)) rfl
  have s3 : mRange1 (mLenF m_Farmdd_lendd (mVar 0)) [.dat (farmD n rows t), .dat (.tup [.int v]), .dat .non, .own (.lst []), .no, .no] = .ok ((rng rows.length).map .int) [.dat (farmD n rows t), .dat (.tup [.int v]), .dat .non, .own (.lst []), .no, .no] := by
    have := range_ok (f := mLenF m_Farmdd_lendd (mVar 0)) (ρ := [.dat (farmD n rows t), .dat (.tup [.int v]), .dat .non, .own (.lst []), .no, .no]) (j := (rows.length : Int)) (e_lenF (n := n) (t := t) (by omega) rfl) (by omega) (by omega)
    rwa [Int.toNat_natCast] at this
  have s4 : mLc (mSeqI (mVar 3)) (gNm 5) (mB (mOp2 sNotN (.dat (mVar 5)) (.dat (M.pure .non)))) (mVar 5) [5] [.dat (farmD n rows t), .dat (.tup [.int v]), .dat .non, .dat (.lst (rows.map (gotD t v))), c', .no] = .ok (.lst ((rows.map (gotD t v)).filter notNon)) [.dat (farmD n rows t), .dat (.tup [.int v]), .dat .non, .dat (.lst (rows.map (gotD t v))), c', .no] := by
    rw [mLc_pure (ds := rows.map (gotD t v)) notNon id (by rfl) (by simp [isOwn]) (fun e he => by
      obtain ⟨r, hr, rfl⟩ := List.mem_map.mp he
      refine ⟨[.dat (farmD n rows t), .dat (.tup [.int v]), .dat .non, .dat (.lst (rows.map (gotD t v))), c', .dat (gotD t v r)], by simp [gNm, wipeC], mB_ok (mOp2_dd (x := gotD t v r) (y := .non) rfl rfl ?_), fun _ => by simp [mkFn, mSeq, mIfS, mDo, mRet, mRetN, mSkip, mExpr, mAsg, mAnd, mOr, mNot, mAndV, mOrV, mNotV, mB, mIf, mV, mNeg, mCall, mOp2, mTup, mLst, mMeth, mSl, mPart, preL, seqM, M.bind, M.pure, M.lift, M.stuck, Out.andThen, mVar, Opn.pre, Opn.rd, rdM, rdLM, rdL, cellD, initC, initAt, outsOf, outAt, gNm, gTp, gNms, mNew, mFrz, mPar, mFld, mCallF, mCallK, mCallN, appF, rdA, setOuts, ownSlots, ownPos, mSeqI, mEnum, mRange1, itemsOf], by simp [wipeC]⟩
      unfold gotD notNon
      split <;> rfl)]
    rw [List.map_id]
  refine ⟨.tup (rows.map (gotD t v)), ?_⟩
  have fin : b_greatest_load [.dat (farmD n rows t), .dat (.tup [.int v]), .no, .no, .no, .no] = .ret (.tup [.int (loadOf rows t v), .tup (rows.map (gotD t v))]) [.dat (farmD n rows t), .dat (.tup [.int v]), .dat .non, .dat (.lst (rows.map (gotD t v))), c', .no] := by
    unfold b_greatest_load
    rw [mSeq_next s1, mSeq_next s2]
    rw [mSeq_next (ρ' := [.dat (farmD n rows t), .dat (.tup [.int v]), .dat .non, .no, .no, .no]) (by rw [mIfN (f := mVar 2) rfl])]
    rw [mSeq_next (ρ' := [.dat (farmD n rows t), .dat (.tup [.int v]), .dat .non, .own (.lst []), .no, .no]) (by rfl)]
    rw [mSeq_next (by rw [mFor_next s3]; exact e)]
    show mRet (mTup [(mCall sLen [(.dat (mLc (mSeqI (mVar 3)) (gNm 5) (mB (mOp2 sNotN (.dat (mVar 5)) (.dat (M.pure .non)))) (mVar 5) [5]))]), (mCall sTuple [(.own 3)])]) [.dat (farmD n rows t), .dat (.tup [.int v]), .dat .non, .dat (.lst (rows.map (gotD t v))), c', .no] = _
    have s5 : mCall sLen [(.dat (mLc (mSeqI (mVar 3)) (gNm 5) (mB (mOp2 sNotN (.dat (mVar 5)) (.dat (M.pure .non)))) (mVar 5) [5]))] [.dat (farmD n rows t), .dat (.tup [.int v]), .dat .non, .dat (.lst (rows.map (gotD t v))), c', .no] = .ok (.int (loadOf rows t v)) [.dat (farmD n rows t), .dat (.tup [.int v]), .dat .non, .dat (.lst (rows.map (gotD t v))), c', .no] := call1 s4 (by rw [← got_len rows]; rfl)
    have s6 : mCall sTuple [(.own 3)] [.dat (farmD n rows t), .dat (.tup [.int v]), .dat .non, .dat (.lst (rows.map (gotD t v))), c', .no] = .ok (.tup (rows.map (gotD t v))) [.dat (farmD n rows t), .dat (.tup [.int v]), .dat .non, .dat (.lst (rows.map (gotD t v))), c', .no] := by rfl
    unfold mRet mDo mTup M.bind
    simp only [seqM, M.bind, s5, s6, Out.andThen, M.pure]
  have h' : b_greatest_load (initC 6 [] [farmD n rows t, .tup [.int v]]) = .ret (.tup [.int (loadOf rows t v), .tup (rows.map (gotD t v))]) [.dat (farmD n rows t), .dat (.tup [.int v]), .dat .non, .dat (.lst (rows.map (gotD t v))), c', .no] := by
    rw [show initC 6 [] [farmD n rows t, .tup [.int v]] = [.dat (farmD n rows t), .dat (.tup [.int v]), .no, .no, .no, .no] from rfl]
    exact fin
  unfold m_greatest_load
  rw [mkFn_ret h']
  rfl
end
end Fx
set_option Elab.async false
set_option linter.all false
set_option maxRecDepth 100000
set_option maxHeartbeats 1000000
namespace Fx
open PySem L2
section
variable {n t v : Int} {rows : List (List Int)}
/-! ### counted by +=  -/
def cntI (n : Int) (L : List Int) : List Int := (rng n.toNat).map fun s => ((L.count s : Nat) : Int)
theorem cnt_get {L : List Int} (v0 : 0 ≤ v) (v1 : v < n) : (cntI n L)[v.toNat]? = some ((L.count v : Nat) : Int) := by
  unfold cntI rng
  rw [List.map_map, List.getElem?_map, List.getElem?_range (by omega)]
  have e : 0 + ((v.toNat : Nat) : Int) = v := by omega
  show some (((L.count (0 + ((v.toNat : Nat) : Int)) : Nat) : Int)) = _
  rw [e]
theorem cnt_len (L : List Int) : (cntI n L).length = n.toNat := by
  unfold cntI
  rw [List.length_map, rng_len]
theorem ixN_nat {m : Nat} {v : Int} (h0 : 0 ≤ v) (h : v < m) : ixN m v = some v.toNat := by
  unfold ixN
  rw [if_pos h0, if_pos h]
theorem cnt_set {L : List Int} (v0 : 0 ≤ v) (v1 : v < n) : (cntI n L).set v.toNat ((L.count v : Nat) + 1) = cntI n (L ++ [v]) := by
  apply List.ext_getElem?
  intro i
  rw [List.getElem?_set]
  by_cases h : v.toNat = i
  · subst h
    rw [if_pos rfl, if_pos (by rw [cnt_len]; omega), cnt_get v0 v1]
    simp
  · rw [if_neg h]
    unfold cntI rng
    rw [List.map_map, List.map_map, List.getElem?_map, List.getElem?_map]
    by_cases hi : i < n.toNat
    · rw [List.getElem?_range hi]
      have e2 : ¬ (0 + (i : Int)) = v := by omega
      have z : [v].count (0 + (i : Int)) = 0 := List.count_eq_zero.mpr fun hm => e2 (by simpa using hm)
      show some (((L.count (0 + (i : Int)) : Nat) : Int)) = some ((((L ++ [v]).count (0 + (i : Int)) : Nat) : Int))
      rw [List.count_append, z, Nat.add_zero]
    · rw [List.getElem?_eq_none (by simpa using hi)]
      rfl
theorem w_aug {L : List Int} (v0 : 0 ≤ v) (v1 : v < n) (r : Cell) : mAugIx 1 (mVar 3) (M.pure (.int 1)) [.dat (farmD n rows t), .own (D.lst (List.map D.int (cntI n (L)))), r, .dat (.int v)] = .next [.dat (farmD n rows t), .own (D.lst (List.map D.int (cntI n (L ++ [v])))), r, .dat (.int v)] := by
  have h1 : atI ((cntI n L).map D.int) v = some (.int ((L.count v : Nat) : Int)) := by
    unfold atI
    rw [List.length_map, cnt_len, ixN_nat v0 (by omega), Option.bind_some, List.getElem?_map, cnt_get v0 v1]
    rfl
  have h2 : ixN ((cntI n L).map D.int).length v = some v.toNat := by
    rw [List.length_map, cnt_len, ixN_nat v0 (by omega)]
  have h3 : ((cntI n L).map D.int).set v.toNat (.int (((L.count v : Nat) : Int) + 1)) = (cntI n (L ++ [v])).map D.int := by
    rw [← cnt_set v0 v1, List.map_set]
  have h4 : augPut 1 v (((L.count v : Nat) : Int) + 1) (D.lst (List.map D.int (cntI n L))) [.dat (farmD n rows t), .own (D.lst (List.map D.int (cntI n (L)))), r, .dat (.int v)] = .next [.dat (farmD n rows t), .own (D.lst (List.map D.int (cntI n (L ++ [v])))), r, .dat (.int v)] := by
    show (match ixN ((cntI n L).map D.int).length v with | some m => _ | none => _) = _
    rw [h2]
    show OutS.next _ = _
    rw [h3]
    rfl
  have h5 : augGet 1 (M.pure (.int 1)) (.int v) (D.lst (List.map D.int (cntI n L))) [.dat (farmD n rows t), .own (D.lst (List.map D.int (cntI n (L)))), r, .dat (.int v)] = .next [.dat (farmD n rows t), .own (D.lst (List.map D.int (cntI n (L ++ [v])))), r, .dat (.int v)] := by
    show (match atI ((cntI n L).map D.int) v with | some (D.int a) => mDo (M.pure (D.int 1)) fun d => augAdd 1 v a d | _ => fun _ => OutS.stuck) _ = _
    rw [h1]
    exact h4
  exact h5
theorem rng_take_app : ∀ (l : List Int) (i : Nat) (x : Int), l[i]? = some x → l.take (i + 1) = l.take i ++ [x] := fun l i x h => by
  rw [List.take_succ, h]
  rfl
theorem w_in (hr : RowOk n r) (L : List Int) (c : Cell) : ∃ c', loopM (gNm 3) (mAugIx 1 (mVar 3) (M.pure (.int 1))) ((nearR t r).map .int) [.dat (farmD n rows t), .own (D.lst (List.map D.int (cntI n (L)))), .dat (rowD r), c] = .next [.dat (farmD n rows t), .own (D.lst (List.map D.int (cntI n (L ++ nearR t r)))), .dat (rowD r), c'] := by
  obtain ⟨ρ', e, c', hρ⟩ := loop_inv (g := gNm 3) (body := mAugIx 1 (mVar 3) (M.pure (.int 1))) (fun i ρ => ∃ c, ρ = [.dat (farmD n rows t), .own (D.lst (List.map D.int (cntI n (L ++ (nearR t r).take i)))), .dat (rowD r), c]) ((nearR t r).map .int) 0 [.dat (farmD n rows t), .own (D.lst (List.map D.int (cntI n (L)))), .dat (rowD r), c] ⟨c, by simp⟩
    (fun i d ρ hd ⟨c, hρ⟩ => by
      rw [Nat.zero_add] at hρ ⊢
      subst hρ
      rw [List.getElem?_map] at hd
      cases hx : (nearR t r)[i]? with
      | none => rw [hx] at hd; cases hd
      | some x =>
        rw [hx] at hd
        cases hd
        obtain ⟨x0, x1⟩ := hr.2.1 x (List.mem_of_mem_take (List.mem_of_getElem? hx))
        refine ⟨[.dat (farmD n rows t), .own (D.lst (List.map D.int (cntI n (L ++ (nearR t r).take i)))), .dat (rowD r), .dat (.int x)], rfl, _, w_aug x0 x1 _, .dat (.int x), ?_⟩
        rw [rng_take_app _ _ _ hx, List.append_assoc])
  subst hρ
  rw [Nat.zero_add, List.length_map, List.take_length] at e
  exact ⟨c', e⟩
theorem w_row (ht : 0 ≤ t) (hr : RowOk n r) (L : List Int) (c : Cell) : ∃ c', (mFor (mSeqI (mSl sCut (.dat (mVar 2)) none (some (mOp2 sAdd (.dat (mFld (mVar 0) "most")) (.dat (M.pure (.int 1))))))) (gNm 3) (mAugIx 1 (mVar 3) (M.pure (.int 1)))) [.dat (farmD n rows t), .own (D.lst (List.map D.int (cntI n (L)))), .dat (rowD r), c] = .next [.dat (farmD n rows t), .own (D.lst (List.map D.int (cntI n (L ++ nearR t r)))), .dat (rowD r), c'] := by
  obtain ⟨c', e⟩ := w_in (t := t) (rows := rows) hr L c
  refine ⟨c', ?_⟩
  have h2 := cutN r (j := t + 1) (by omega)
  rw [mFor_next (ds := (nearR t r).map .int) (ρ1 := [.dat (farmD n rows t), .own (D.lst (List.map D.int (cntI n (L)))), .dat (rowD r), c]) (by
    generalize (D.lst (List.map D.int (cntI n L))) = dd
    simp [mkFn, mSeq, mIfS, mDo, mRet, mRetN, mSkip, mExpr, mAsg, mAnd, mOr, mNot, mAndV, mOrV, mNotV, mB, mIf, mV, mNeg, mCall, mOp2, mTup, mLst, mMeth, mSl, mPart, preL, seqM, M.bind, M.pure, M.lift, M.stuck, Out.andThen, mVar, Opn.pre, Opn.rd, rdM, rdLM, rdL, cellD, initC, initAt, outsOf, outAt, gNm, gTp, gNms, mNew, mFrz, mPar, mFld, mCallF, mCallK, mCallN, appF, rdA, setOuts, ownSlots, ownPos, mSeqI, mEnum, mRange1, itemsOf, farmD, lk_most, sAdd, h2]
    simp [rowD, nearR])]
  exact e
theorem w_for (ht : 0 ≤ t) (hrow : ∀ r ∈ rows, RowOk n r) : ∃ c c', loopM (gNm 2) (mFor (mSeqI (mSl sCut (.dat (mVar 2)) none (some (mOp2 sAdd (.dat (mFld (mVar 0) "most")) (.dat (M.pure (.int 1))))))) (gNm 3) (mAugIx 1 (mVar 3) (M.pure (.int 1)))) (rows.map rowD) [.dat (farmD n rows t), .own (D.lst (List.map D.int (cntI n ([])))), .no, .no] = .next [.dat (farmD n rows t), .own (D.lst (List.map D.int (cntI n (rows.flatMap (nearR t))))), c, c'] := by
  obtain ⟨ρ', e, c, c', hρ⟩ := loop_inv (g := gNm 2) (body := (mFor (mSeqI (mSl sCut (.dat (mVar 2)) none (some (mOp2 sAdd (.dat (mFld (mVar 0) "most")) (.dat (M.pure (.int 1))))))) (gNm 3) (mAugIx 1 (mVar 3) (M.pure (.int 1))))) (fun i ρ => ∃ c c', ρ = [.dat (farmD n rows t), .own (D.lst (List.map D.int (cntI n ((rows.take i).flatMap (nearR t))))), c, c']) (rows.map rowD) 0 [.dat (farmD n rows t), .own (D.lst (List.map D.int (cntI n ([])))), .no, .no] ⟨.no, .no, by simp⟩
    (fun i d ρ hd ⟨c, c', hρ⟩ => by
      rw [Nat.zero_add] at hρ ⊢
      subst hρ
      rw [List.getElem?_map] at hd
      cases hx : rows[i]? with
      | none => rw [hx] at hd; cases hd
      | some r =>
        rw [hx] at hd
        cases hd
        obtain ⟨c2, e⟩ := w_row (rows := rows) ht (hrow r (List.mem_of_getElem? hx)) ((rows.take i).flatMap (nearR t)) c'
        refine ⟨[.dat (farmD n rows t), .own (D.lst (List.map D.int (cntI n ((rows.take i).flatMap (nearR t))))), .dat (rowD r), c'], rfl, _, e, .dat (rowD r), c2, ?_⟩
        rw [List.take_succ, hx, List.flatMap_append]
        simp)
  subst hρ
  rw [Nat.zero_add, List.length_map, List.take_length] at e
  exact ⟨c, c', e⟩
theorem nd_count (v : Int) {l : List Int} (h : l.Nodup) : l.count v = if decide (v ∈ l) = true then 1 else 0 := by
  by_cases hv : v ∈ l
  · rw [if_pos (decide_eq_true hv), h.count, if_pos hv]
  · rw [if_neg (by simpa using hv), List.count_eq_zero.mpr hv]
theorem count_load (v : Int) : ∀ {rows : List (List Int)}, (∀ r ∈ rows, RowOk n r) → (rows.flatMap (nearR t)).count v = loadOf rows t v
  | [], _ => rfl
  | r :: rows, h => by
    obtain ⟨r1, r2, r3, r4⟩ := h r List.mem_cons_self
    have hnd : (nearR t r).Nodup := r3.sublist (List.take_sublist _ _)
    have ih := count_load v fun x hx => h x (List.mem_cons_of_mem _ hx)
    rw [List.flatMap_cons, List.count_append, ih, nd_count v hnd]
    unfold loadOf
    rw [List.filter_cons]
    by_cases hh : hasR t v r = true
    · rw [if_pos hh, if_pos (show decide (v ∈ nearR t r) = true from hh), List.length_cons, Nat.add_comm]
    · rw [if_neg hh, if_neg (show ¬ decide (v ∈ nearR t r) = true from hh), Nat.zero_add]
def loadsI (n : Int) (rows : List (List Int)) (t : Int) : List Int := (rng n.toNat).map fun s => ((loadOf rows t s : Nat) : Int)
theorem cnt_loads (hrow : ∀ r ∈ rows, RowOk n r) : cntI n (rows.flatMap (nearR t)) = loadsI n rows t := by
  unfold cntI loadsI
  refine List.map_congr_left fun s _ => ?_
  rw [count_load s hrow]
def mxl (l : List Int) : Int := (maxI l).getD 0
theorem mxl_ok {l : List Int} (h : l ≠ []) : maxI l = some (mxl l) ∧ mxl l ∈ l ∧ ∀ x ∈ l, x ≤ mxl l := by
  cases l with
  | nil => exact absurd rfl h
  | cons a l => exact ⟨rfl, foldl_max l a⟩
theorem loads_ne (n1 : 1 ≤ n) : loadsI n rows t ≠ [] := by
  intro z
  have := congrArg List.length z
  unfold loadsI at this
  rw [List.length_map, rng_len] at this
  simp at this
  omega
theorem sMax_l {l : List Int} (h : l ≠ []) : sMax [(D.lst (List.map D.int l))] = some (.int (mxl l)) := by
  simp only [sMax, intsOf_map, Option.bind_some, (mxl_ok h).1, Option.map_some]
def wIx (n : Int) (rows : List (List Int)) (t : Int) : Int := ((loadsI n rows t).idxOf (mxl (loadsI n rows t)) : Nat)
theorem e_worst (hF : FarmOk n rows) (ht : 0 ≤ t) : m_worst_load [farmD n rows t] = .ret (.tup [.int (mxl (loadsI n rows t)), .int (wIx n rows t)]) [] := by
  have n1 := hF.n1
  have n2 := hF.n2
  obtain ⟨c, c', e⟩ := w_for (t := t) ht hF.row
  have hc := cnt_loads (t := t) hF.row
  have hne := loads_ne (n := n) (rows := rows) (t := t) n1
  have h0 : mOp2 sMulL (.dat (mLst [(M.pure (.int 0))])) (.dat (mFld (mVar 0) "many")) [.dat (farmD n rows t), .no, .no, .no] = .ok (D.lst (List.map D.int (cntI n []))) [.dat (farmD n rows t), .no, .no, .no] := by
    have q : sMulL (.lst [.int 0]) (.int n) = some (D.lst (List.map D.int (cntI n []))) := by
      have h1 : n < 2 ^ 62 ∧ -(2 ^ 62) ≤ n ∧ [D.int 0].length * n.toNat ≤ 16777216 := by
        refine ⟨by omega, by omega, ?_⟩
        rw [List.length_singleton]
        omega
      show (if n < 2 ^ 62 ∧ -(2 ^ 62) ≤ n ∧ [D.int 0].length * n.toNat ≤ 16777216 then some (D.lst (List.replicate n.toNat [D.int 0]).flatten) else none) = _
      rw [if_pos h1]
      congr 2
      apply List.ext_getElem?
      intro i
      rw [List.flatten_replicate_singleton]
      unfold cntI rng
      rw [List.map_map, List.map_map, List.getElem?_map]
      by_cases hi : i < n.toNat
      · rw [List.getElem?_range hi]
        simp [hi]
      · rw [List.getElem?_eq_none (by simpa using hi), List.getElem?_eq_none (by simpa using hi)]
        rfl
    exact mOp2_dd (x := .lst [.int 0]) (y := .int n) rfl (by simp [mkFn, mSeq, mIfS, mDo, mRet, mRetN, mSkip, mExpr, mAsg, mAnd, mOr, mNot, mAndV, mOrV, mNotV, mB, mIf, mV, mNeg, mCall, mOp2, mTup, mLst, mMeth, mSl, mPart, preL, seqM, M.bind, M.pure, M.lift, M.stuck, Out.andThen, mVar, Opn.pre, Opn.rd, rdM, rdLM, rdL, cellD, initC, initAt, outsOf, outAt, gNm, gTp, gNms, mNew, mFrz, mPar, mFld, mCallF, mCallK, mCallN, appF, rdA, setOuts, ownSlots, ownPos, mSeqI, mEnum, mRange1, itemsOf, farmD, lk_many]) q
  have h1 : mSeqI (mFld (mVar 0) "rows") [.dat (farmD n rows t), .own (D.lst (List.map D.int (cntI n ([])))), .no, .no] = .ok (rows.map rowD) [.dat (farmD n rows t), .own (D.lst (List.map D.int (cntI n ([])))), .no, .no] := by
    generalize (D.lst (List.map D.int (cntI n []))) = dd
    simp [mkFn, mSeq, mIfS, mDo, mRet, mRetN, mSkip, mExpr, mAsg, mAnd, mOr, mNot, mAndV, mOrV, mNotV, mB, mIf, mV, mNeg, mCall, mOp2, mTup, mLst, mMeth, mSl, mPart, preL, seqM, M.bind, M.pure, M.lift, M.stuck, Out.andThen, mVar, Opn.pre, Opn.rd, rdM, rdLM, rdL, cellD, initC, initAt, outsOf, outAt, gNm, gTp, gNms, mNew, mFrz, mPar, mFld, mCallF, mCallK, mCallN, appF, rdA, setOuts, ownSlots, ownPos, mSeqI, mEnum, mRange1, itemsOf, farmD, lk_rows]
  rw [hc] at e
  have h2 := sMax_l hne
  have h3 := sLix_in (mxl_ok hne).2.1
  have fin : b_worst_load [.dat (farmD n rows t), .no, .no, .no] = .ret (.tup [.int (mxl (loadsI n rows t)), .int (wIx n rows t)]) [.dat (farmD n rows t), .own (D.lst (List.map D.int (loadsI n rows t))), c, c'] := by
    unfold b_worst_load
    rw [mSeq_next (ρ' := [.dat (farmD n rows t), .own (D.lst (List.map D.int (cntI n ([])))), .no, .no]) (by unfold mNew mDo; rw [h0]; rfl)]
    rw [mSeq_next (by rw [mFor_next h1]; exact e)]
    unfold wIx
    generalize mxl (loadsI n rows t) = m at h2 h3 ⊢
    generalize (loadsI n rows t).idxOf m = ix at h3 ⊢
    have h4 : isLst (D.lst (List.map D.int (loadsI n rows t))) = true := rfl
    generalize (D.lst (List.map D.int (loadsI n rows t))) = dd at h2 h3 h4 ⊢
    simp [mkFn, mSeq, mIfS, mDo, mRet, mRetN, mSkip, mExpr, mAsg, mAnd, mOr, mNot, mAndV, mOrV, mNotV, mB, mIf, mV, mNeg, mCall, mOp2, mTup, mLst, mMeth, mSl, mPart, preL, seqM, M.bind, M.pure, M.lift, M.stuck, Out.andThen, mVar, Opn.pre, Opn.rd, rdM, rdLM, rdL, cellD, initC, initAt, outsOf, outAt, gNm, gTp, gNms, mNew, mFrz, mPar, mFld, mCallF, mCallK, mCallN, appF, rdA, setOuts, ownSlots, ownPos, mSeqI, mEnum, mRange1, itemsOf, h2, h3, h4]
  have h' : b_worst_load (initC 4 [] [farmD n rows t]) = .ret (.tup [.int (mxl (loadsI n rows t)), .int (wIx n rows t)]) [.dat (farmD n rows t), .own (D.lst (List.map D.int (loadsI n rows t))), c, c'] := by
    rw [show initC 4 [] [farmD n rows t] = [.dat (farmD n rows t), .no, .no, .no] from rfl]
    exact fin
  unfold m_worst_load
  rw [mkFn_ret h']
  rfl
end
end Fx
set_option Elab.async false
set_option linter.all false
set_option maxRecDepth 100000
set_option maxHeartbeats 1000000
namespace Fx
open PySem L2
section
variable {n t v : Int} {rows : List (List Int)}
theorem e_servers (n t : Int) (rows : List (List Int)) : m_Farm_servers [farmD n rows t] = .ret (.int n) [] := by
  simp [m_Farm_servers, b_Farm_servers, mkFn, mSeq, mIfS, mDo, mRet, mRetN, mSkip, mExpr, mAsg, mAnd, mOr, mNot, mAndV, mOrV, mNotV, mB, mIf, mV, mNeg, mCall, mOp2, mTup, mLst, mMeth, mSl, mPart, preL, seqM, M.bind, M.pure, M.lift, M.stuck, Out.andThen, mVar, Opn.pre, Opn.rd, rdM, rdLM, rdL, cellD, initC, initAt, outsOf, outAt, gNm, gTp, gNms, mNew, mFrz, mPar, mFld, mCallF, mCallK, mCallN, appF, rdA, setOuts, ownSlots, ownPos, mSeqI, mEnum, mRange1, itemsOf, farmD, lk_many]
theorem e_failures (n t : Int) (rows : List (List Int)) : m_Farm_failures [farmD n rows t] = .ret (.int t) [] := by
  simp [m_Farm_failures, b_Farm_failures, mkFn, mSeq, mIfS, mDo, mRet, mRetN, mSkip, mExpr, mAsg, mAnd, mOr, mNot, mAndV, mOrV, mNotV, mB, mIf, mV, mNeg, mCall, mOp2, mTup, mLst, mMeth, mSl, mPart, preL, seqM, M.bind, M.pure, M.lift, M.stuck, Out.andThen, mVar, Opn.pre, Opn.rd, rdM, rdLM, rdL, cellD, initC, initAt, outsOf, outAt, gNm, gTp, gNms, mNew, mFrz, mPar, mFld, mCallF, mCallK, mCallN, appF, rdA, setOuts, ownSlots, ownPos, mSeqI, mEnum, mRange1, itemsOf, farmD, lk_most]
theorem callF1 {F : Fn} {f : M D} {ρ : Cells} {a d : D} (h1 : f ρ = .ok a ρ) (h : F [a] = .ret d []) : mCallF F [.dat f] ρ = .ok d ρ := by
  unfold mCallF
  simp [preL, M.bind, Opn.pre, h1, Out.andThen, M.pure, rdA, Opn.rd, setOuts, ownSlots, h]
theorem meth0 {F : Fn} {m : Str} {f : M D} {ρ : Cells} {d e : D} (h1 : f ρ = .ok d ρ) (h2 : noName m d = true) (h3 : F [d] = .ret e []) : mMethF F m f [] ρ = .ok e ρ := by
  unfold mMethF M.bind
  simp only [h1, Out.andThen, h2, if_true, seqM, M.pure, M.bind, appF, h3]
theorem nn_lists : noName ("lists" : Str) (farmD n rows t) = true := by
  show (!(["many", "rows", "most"] : List Str).contains ("lists" : Str)) = true
  decide
theorem nn_servers : noName ("servers" : Str) (farmD n rows t) = true := by
  show (!(["many", "rows", "most"] : List Str).contains ("servers" : Str)) = true
  decide
theorem nn_failures : noName ("failures" : Str) (farmD n rows t) = true := by
  show (!(["many", "rows", "most"] : List Str).contains ("failures" : Str)) = true
  decide
theorem sl_ok {sem : D → Option Int → Option Int → Option D} {f g : M D} {ρ : Cells} {d e : D} {j : Int} (h1 : f ρ = .ok d ρ) (h2 : g ρ = .ok (.int j) ρ) (h3 : sem d none (some j) = some e) : mSl sem (.dat f) none (some g) ρ = .ok e ρ := by
  unfold mSl
  simp [M.bind, Opn.pre, h1, mPart, h2, Out.andThen, M.pure, rdM, Opn.rd, M.lift, h3]
def isRow (f : List Int → Bool) : D → Bool
  | .tup ds => match intsOf ds with
    | some l => f l
    | none => false
  | _ => false
theorem isRow_row (f : List Int → Bool) (r : List Int) : isRow f (rowD r) = f r := by
  simp [isRow, rowD, intsOf_map]
theorem filter_rows (f : List Int → Bool) : ∀ l : List (List Int), (l.map rowD).filter (isRow f) = (l.filter f).map rowD
  | [] => rfl
  | r :: l => by
    rw [List.map_cons, List.filter_cons, List.filter_cons, isRow_row, filter_rows f l]
    cases f r <;> rfl
def onR (f : List Int → D) : D → D
  | .tup ds => match intsOf ds with
    | some l => f l
    | none => .non
  | _ => .non
theorem map_onR (f : List Int → D) (l : List (List Int)) : (l.map rowD).map (onR f) = l.map f := by
  rw [List.map_map]
  refine List.map_congr_left fun r _ => ?_
  simp [onR, rowD, intsOf_map]
theorem c_near (ht : 0 ≤ t) : mLc (mSeqI (mMethF m_Farm_lists "lists" (mVar 0) [])) (gNm 2) (M.pure true) (mSl sCut (.dat (mVar 2)) none (some (mOp2 sAdd (.dat (mMethF m_Farm_failures "failures" (mVar 0) [])) (.dat (M.pure (.int 1)))))) [2] [.dat (farmD n rows t), .no, .no, .no] = .ok (.lst ((rows.map (nearR t)).map rowD)) [.dat (farmD n rows t), .no, .no, .no] := by
  rw [mLc_pure (ds := rows.map rowD) (fun _ => true) (onR fun r => rowD (nearR t r)) (by unfold mSeqI M.bind; rw [meth0 (f := mVar 0) rfl nn_lists (e_lists n rows t)]; rfl) (by simp [isOwn]) (fun e he => by
    obtain ⟨r, hr, rfl⟩ := List.mem_map.mp he
    refine ⟨[.dat (farmD n rows t), .no, .dat (rowD r), .no], by simp [gNm, wipeC], rfl, fun _ => ?_, by simp [wipeC]⟩
    have h1 : onR (fun r => rowD (nearR t r)) (rowD r) = rowD (nearR t r) := by simp [onR, rowD, intsOf_map]
    rw [h1]
    exact sl_ok (j := t + 1) rfl (mOp2_dd (meth0 (f := mVar 0) rfl nn_failures (e_failures n t rows)) (show M.pure (D.int 1) _ = .ok (.int 1) _ from rfl) rfl) (cutN r (by omega)))]
  rw [List.filter_eq_self.mpr (fun _ _ => rfl), map_onR, List.map_map]
  rfl
theorem c_one (v : Int) : mLc (mSeqI (mVar 1)) (gNm 2) (mB (mOp2 sIn (.dat (mVar 3)) (.dat (mVar 2)))) (mVar 2) [2] [.dat (farmD n rows t), .dat (.lst ((rows.map (nearR t)).map rowD)), .no, .dat (.int v)] = .ok (.lst (((rows.map (nearR t)).filter fun r => decide (v ∈ r)).map rowD)) [.dat (farmD n rows t), .dat (.lst ((rows.map (nearR t)).map rowD)), .no, .dat (.int v)] := by
  generalize rows.map (nearR t) = N
  rw [mLc_pure (ds := N.map rowD) (isRow fun r => decide (v ∈ r)) id (by rfl) (by simp [isOwn]) (fun e he => by
    obtain ⟨r, hr, rfl⟩ := List.mem_map.mp he
    refine ⟨[.dat (farmD n rows t), .dat (.lst (N.map rowD)), .dat (rowD r), .dat (.int v)], by simp [gNm, wipeC], mB_ok (mOp2_dd (x := .int v) (y := rowD r) rfl rfl ?_), fun _ => by simp [mkFn, mSeq, mIfS, mDo, mRet, mRetN, mSkip, mExpr, mAsg, mAnd, mOr, mNot, mAndV, mOrV, mNotV, mB, mIf, mV, mNeg, mCall, mOp2, mTup, mLst, mMeth, mSl, mPart, preL, seqM, M.bind, M.pure, M.lift, M.stuck, Out.andThen, mVar, Opn.pre, Opn.rd, rdM, rdLM, rdL, cellD, initC, initAt, outsOf, outAt, gNm, gTp, gNms, mNew, mFrz, mPar, mFld, mCallF, mCallK, mCallN, appF, rdA, setOuts, ownSlots, ownPos, mSeqI, mEnum, mRange1, itemsOf], by simp [wipeC]⟩
    rw [isRow_row]
    exact sIn_tup v r)]
  rw [filter_rows, List.map_id]
theorem near_len (v : Int) : ∀ rows : List (List Int), ((rows.map (nearR t)).filter fun r => decide (v ∈ r)).length = loadOf rows t v
  | [] => rfl
  | r :: rows => by
    have ih := near_len v rows
    unfold loadOf at ih ⊢
    rw [List.map_cons, List.filter_cons, List.filter_cons]
    by_cases h : hasR t v r = true
    · rw [if_pos h, if_pos (show decide (v ∈ nearR t r) = true from h), List.length_cons, List.length_cons, ih]
    · rw [if_neg h, if_neg (show ¬ decide (v ∈ nearR t r) = true from h), ih]
theorem e_counts (n1 : 1 ≤ n) (n2 : n ≤ 30) (ht : 0 ≤ t) : m_law_counts [farmD n rows t] = .ret (D.lst (List.map D.int (loadsI n rows t))) [] := by
  have h1 := mAsg_ok (g := gNm 1) (ρ2 := [.dat (farmD n rows t), .dat (.lst ((rows.map (nearR t)).map rowD)), .no, .no]) (c_near (n := n) (rows := rows) ht) rfl
  have h2 : mLc (mRange1 (mMethF m_Farm_servers "servers" (mVar 0) [])) (gNm 3) (M.pure true) (mCall sLen [(.dat (mLc (mSeqI (mVar 1)) (gNm 2) (mB (mOp2 sIn (.dat (mVar 3)) (.dat (mVar 2)))) (mVar 2) [2]))]) [3] [.dat (farmD n rows t), .dat (.lst ((rows.map (nearR t)).map rowD)), .no, .no] = .ok (D.lst (List.map D.int (loadsI n rows t))) [.dat (farmD n rows t), .dat (.lst ((rows.map (nearR t)).map rowD)), .no, .no] := by
    rw [mLc_pure (ds := (rng n.toNat).map .int) (fun _ => true) (onI fun v => ((loadOf rows t v : Nat) : Int)) (by exact range_ok (meth0 (f := mVar 0) rfl nn_servers (e_servers n t rows)) (by omega) (by omega)) (by simp [isOwn]) (fun e he => by
      obtain ⟨v, hv, rfl⟩ := List.mem_map.mp he
      refine ⟨[.dat (farmD n rows t), .dat (.lst ((rows.map (nearR t)).map rowD)), .no, .dat (.int v)], by simp [gNm, wipeC], rfl, fun _ => call1 (c_one v) ?_, by simp [wipeC]⟩
      show some (D.int (((List.map rowD ((rows.map (nearR t)).filter fun r => decide (v ∈ r))).length : Nat) : Int)) = some (D.int ((loadOf rows t v : Nat) : Int))
      rw [List.length_map, near_len])]
    rw [List.filter_eq_self.mpr (fun _ _ => rfl), map_onI]
    rfl
  have fin : b_law_counts [.dat (farmD n rows t), .no, .no, .no] = .ret (D.lst (List.map D.int (loadsI n rows t))) [.dat (farmD n rows t), .dat (.lst ((rows.map (nearR t)).map rowD)), .no, .no] := by
    unfold b_law_counts
    rw [mSeq_next h1]
    unfold mRet mDo
    rw [h2]
  have h' : b_law_counts (initC 4 [] [farmD n rows t]) = .ret (D.lst (List.map D.int (loadsI n rows t))) [.dat (farmD n rows t), .dat (.lst ((rows.map (nearR t)).map rowD)), .no, .no] := by
    rw [show initC 4 [] [farmD n rows t] = [.dat (farmD n rows t), .no, .no, .no] from rfl]
    exact fin
  unfold m_law_counts
  rw [mkFn_ret h']
  rfl
theorem sNe_tup (l m : List Int) : sNe (.tup (l.map .int)) (.tup (m.map .int)) = some (.bl (!decide (l = m))) := by
  simp [sNe, plain, toPy, PyData.canLay0, lay_ints, PyData.depth, dep_ints, eqD, PyData.eqv, eqv_ints]
theorem sNe_tup_same (l : List Int) : sNe (.tup (l.map .int)) (.tup (l.map .int)) = some (.bl false) := by
  rw [sNe_tup, decide_eq_true rfl]
  rfl
theorem loads_at {i : Nat} {m : Int} (h : (loadsI n rows t)[i]? = some m) : i < n.toNat ∧ m = ((loadOf rows t (i : Int) : Nat) : Int) := by
  have hl := (List.getElem?_eq_some_iff.mp h).1
  unfold loadsI at h hl
  rw [List.length_map, rng_len] at hl
  refine ⟨hl, ?_⟩
  unfold rng at h
  rw [List.map_map, List.getElem?_map, List.getElem?_range hl] at h
  have h : some ((loadOf rows t (0 + (i : Int)) : Nat) : Int) = some m := h
  rw [Int.zero_add] at h
  exact (Option.some.inj h).symm
theorem tup_two {f g : M D} {ρ : Cells} {a b : D} (h1 : f ρ = .ok a ρ) (h2 : g ρ = .ok b ρ) : mTup [f, g] ρ = .ok (.tup [a, b]) ρ := by
  unfold mTup M.bind
  simp only [seqM, M.bind, h1, h2, Out.andThen, M.pure]
theorem meth1 {is : D → Bool} {sem : D → List D → Option D} {f g : M D} {ρ : Cells} {a b d : D} (h1 : f ρ = .ok a ρ) (h2 : is a = true) (h3 : g ρ = .ok b ρ) (h4 : sem a [b] = some d) : mMeth is sem (.dat f) [(.dat g)] ρ = .ok d ρ := by
  unfold mMeth
  simp [M.bind, Opn.pre, h1, Out.andThen, rdM, Opn.rd, M.pure, h2, preL, h3, rdLM, rdL, M.lift, h4]
theorem e_wright (hF : FarmOk n rows) (ht : 0 ≤ t) : m_law_worst_right [farmD n rows t] = .ret (.bl true) [] := by
  have n1 := hF.n1
  have n2 := hF.n2
  have e1 := e_counts (rows := rows) n1 n2 ht
  have e2 := e_worst hF ht
  have hne := loads_ne (n := n) (rows := rows) (t := t) n1
  obtain ⟨m1, m2, m3⟩ := mxl_ok hne
  have hix : (loadsI n rows t)[(loadsI n rows t).idxOf (mxl (loadsI n rows t))]? = some (mxl (loadsI n rows t)) := by
    rw [List.getElem?_eq_getElem (List.idxOf_lt_length_of_mem m2), List.getElem_idxOf]
  obtain ⟨w1, w2⟩ := loads_at hix
  have hw : ((loadsI n rows t).idxOf (mxl (loadsI n rows t)) : Int) = wIx n rows t := rfl
  rw [hw] at w2
  have v1 : 0 ≤ wIx n rows t := by rw [← hw]; omega
  have v2 : wIx n rows t ≤ n - 1 := by rw [← hw]; omega
  obtain ⟨d, e3⟩ := e_greatest hF ht v1 v2
  rw [← w2] at e3
  have q1 := sMax_l hne
  have q2 := sLix_in m2
  rw [hw] at q2
  generalize mxl (loadsI n rows t) = m at *
  generalize wIx n rows t = ix at *
  generalize loadsI n rows t = L at *
  have q3 : isLst (D.lst (List.map D.int L)) = true := rfl
  let ρ1 : Cells := [.dat (farmD n rows t), .dat (D.lst (List.map D.int L)), .dat (.tup [.int m, .int ix]), .no, .no]
  have s1 : mAsg (mCallF m_law_counts [(.dat (mVar 0))]) (gNm 1) [.dat (farmD n rows t), .no, .no, .no, .no] = .next [.dat (farmD n rows t), .dat (D.lst (List.map D.int L)), .no, .no, .no] := by
    simp [mkFn, mSeq, mIfS, mDo, mRet, mRetN, mSkip, mExpr, mAsg, mAnd, mOr, mNot, mAndV, mOrV, mNotV, mB, mIf, mV, mNeg, mCall, mOp2, mTup, mLst, mMeth, mSl, mPart, preL, seqM, M.bind, M.pure, M.lift, M.stuck, Out.andThen, mVar, Opn.pre, Opn.rd, rdM, rdLM, rdL, cellD, initC, initAt, outsOf, outAt, gNm, gTp, gNms, mNew, mFrz, mPar, mFld, mCallF, mCallK, mCallN, appF, rdA, setOuts, ownSlots, ownPos, mSeqI, mEnum, mRange1, itemsOf, e1]
  have s2 : mAsg (mCallF m_worst_load [(.dat (mVar 0))]) (gNm 2) [.dat (farmD n rows t), .dat (D.lst (List.map D.int L)), .no, .no, .no] = .next ρ1 := by
    exact mAsg_ok (callF1 rfl e2) rfl
  have g1 : sIsi [.tup [.int m, .int ix], .raw (.ty "tuple")] = some (.bl true) := by simp [sIsi, tyName, kit_tt]
  have t1 : mNot (mB (mCall sIsi [(.dat (mVar 2)), (.dat (M.pure (.raw (.ty "tuple"))))])) ρ1 = .ok false ρ1 := not_ff (mB_ok (call1_ok (f := mVar 2) (g := M.pure (.raw (.ty "tuple"))) rfl rfl g1))
  have t2 : mCall sMax [(.dat (mVar 1))] ρ1 = .ok (.int m) ρ1 := call1 rfl q1
  have t3 : mMeth isLst sLix (.dat (mVar 1)) [(.dat (mCall sMax [(.dat (mVar 1))]))] ρ1 = .ok (.int ix) ρ1 := meth1 rfl q3 t2 q2
  have t4 : mB (mOp2 sNe (.dat (mVar 2)) (.dat (mTup [(mCall sMax [(.dat (mVar 1))]), (mMeth isLst sLix (.dat (mVar 1)) [(.dat (mCall sMax [(.dat (mVar 1))]))])]))) ρ1 = .ok false ρ1 := mB_ok (mOp2_dd (x := .tup [.int m, .int ix]) (y := .tup [.int m, .int ix]) rfl (tup_two t2 t3) (sNe_tup_same [m, ix]))
  have e3' : mCallF m_greatest_load [(.dat (mVar 0)), (.dat (mTup [(mVar 4)]))] [.dat (farmD n rows t), .dat (D.lst (List.map D.int L)), .dat (.tup [.int m, .int ix]), .dat (.int m), .dat (.int ix)] = .ok (.tup [.int m, d]) [.dat (farmD n rows t), .dat (D.lst (List.map D.int L)), .dat (.tup [.int m, .int ix]), .dat (.int m), .dat (.int ix)] := callF2 rfl rfl e3
  have fin : b_law_worst_right [.dat (farmD n rows t), .no, .no, .no, .no] = .ret (.bl true) [.dat (farmD n rows t), .dat (D.lst (List.map D.int L)), .dat (.tup [.int m, .int ix]), .dat (.int m), .dat (.int ix)] := by
    unfold b_law_worst_right
    rw [mSeq_next s1, mSeq_next s2]
    rw [mSeq_next (ρ' := ρ1) (by rw [mIfS_f (mOr_ff t1 t4)]; rfl)]
    rw [mSeq_next (ρ' := [.dat (farmD n rows t), .dat (D.lst (List.map D.int L)), .dat (.tup [.int m, .int ix]), .dat (.int m), .dat (.int ix)]) (by rfl)]
    have h3 := sEq_int m m
    rw [decide_eq_true rfl] at h3
    unfold mRet mDo
    rw [mOp2_dd (mOp2_dd e3' (show M.pure (D.int 0) _ = .ok (.int 0) _ from rfl) (atI_nat [D.int m, d] 0)) (y := .int m) (by rfl) h3]
  have h' : b_law_worst_right (initC 5 [] [farmD n rows t]) = .ret (.bl true) [.dat (farmD n rows t), .dat (D.lst (List.map D.int L)), .dat (.tup [.int m, .int ix]), .dat (.int m), .dat (.int ix)] := by
    rw [show initC 5 [] [farmD n rows t] = [.dat (farmD n rows t), .no, .no, .no, .no] from rfl]
    exact fin
  unfold m_law_worst_right
  rw [mkFn_ret h']
  rfl
end
end Fx
set_option Elab.async false
set_option linter.all false
set_option maxRecDepth 100000
set_option maxHeartbeats 1000000
namespace Fx
open PySem L2
/-! ### numbers in turn -/
theorem step_div {n M : Nat} (hn : 0 < n) : (M % n + 1 < n ∧ (M + 1) / n = M / n ∧ (M + 1) % n = M % n + 1) ∨ (M % n + 1 = n ∧ (M + 1) / n = M / n + 1 ∧ (M + 1) % n = 0) := by
  have h1 := Nat.div_add_mod M n
  have h2 := Nat.mod_lt M hn
  have h3 := Nat.div_add_mod (M + 1) n
  have h5 := Nat.mul_comm n (M / n)
  have h6 : (M / n + 1) * n = M / n * n + n := Nat.succ_mul (M / n) n
  have h7 : (M / n + 1 + 1) * n = (M / n + 1) * n + n := Nat.succ_mul (M / n + 1) n
  rcases Nat.lt_or_ge (M % n + 1) n with z | z
  · left
    have q : (M + 1) / n = M / n := Nat.div_eq_of_lt_le (by omega) (by omega)
    rw [q] at h3
    exact ⟨z, q, by omega⟩
  · right
    have q : (M + 1) / n = M / n + 1 := Nat.div_eq_of_lt_le (by omega) (by omega)
    rw [q, Nat.mul_add, Nat.mul_one] at h3
    exact ⟨by omega, q, by omega⟩
theorem count_turn {n s : Nat} (hn : 0 < n) (hs : s < n) : ∀ M : Nat, ((List.range M).map fun m => m % n).count s = M / n + if s < M % n then 1 else 0
  | 0 => by simp
  | M + 1 => by
    have ih := count_turn hn hs M
    rw [List.range_succ, List.map_append, List.count_append, ih, List.map_singleton, List.count_singleton]
    rcases step_div (M := M) hn with ⟨a, b, c⟩ | ⟨a, b, c⟩
    · rw [b, c]
      by_cases h : M % n = s
      · simp [h]
      · have h2 : (s < M % n + 1) ↔ s < M % n := by omega
        simp [h, h2]
    · rw [b, c]
      by_cases h : M % n = s
      · simp [h]
      · have h2 : s < M % n := by omega
        simp [h, h2]
theorem ceil_turn {n M : Nat} (hn : 0 < n) : (M + n - 1) / n = M / n + if 0 < M % n then 1 else 0 := by
  have h1 := Nat.div_add_mod M n
  have h2 := Nat.mod_lt M hn
  have h5 := Nat.mul_comm n (M / n)
  have h6 : (M / n + 1) * n = M / n * n + n := Nat.succ_mul (M / n) n
  have h7 : (M / n + 1 + 1) * n = (M / n + 1) * n + n := Nat.succ_mul (M / n + 1) n
  split
  · exact Nat.div_eq_of_lt_le (by omega) (by omega)
  · rw [Nat.add_zero]
    exact Nat.div_eq_of_lt_le (by omega) (by omega)
def turnI (n M : Nat) : List Int := (List.range M).map fun m => ((m % n : Nat) : Int)
theorem count_turnI {n s M : Nat} (hn : 0 < n) (hs : s < n) : (turnI n M).count (s : Int) = M / n + if s < M % n then 1 else 0 := by
  rw [← count_turn hn hs M]
  unfold turnI
  have h : (List.range M).map (fun m => ((m % n : Nat) : Int)) = ((List.range M).map fun m => m % n).map fun (a : Nat) => (a : Int) := by
    rw [List.map_map]
    rfl
  rw [h]
  generalize (List.range M).map (fun m => m % n) = l
  induction l with
  | nil => rfl
  | cons a l ih =>
    rw [List.map_cons, List.count_cons, List.count_cons, ih]
    congr 1
    by_cases e : a = s
    · simp [e]
    · have e2 : ¬ ((a : Int) = (s : Int)) := by omega
      simp [e, e2]
theorem rng_succ (k : Nat) : rng (k + 1) = rng k ++ [(k : Int)] := by
  unfold rng
  rw [List.range_succ, List.map_append]
  simp
theorem frow_nat (n sz a : Nat) : frow (n : Int) (sz : Int) (a : Int) = (List.range sz).map fun b => (((a * sz + b) % n : Nat) : Int) := by
  unfold frow rng
  rw [Int.toNat_natCast, List.map_map]
  refine List.map_congr_left fun b _ => ?_
  show ((a : Int) * (sz : Int) + (0 + (b : Int))).fmod (n : Int) = _
  rw [Int.fmod_eq_emod_of_nonneg _ (Int.natCast_nonneg n), Int.zero_add, ← Int.natCast_mul, ← Int.natCast_add, ← Int.natCast_emod]
theorem frows_flat (n sz : Nat) : ∀ k : Nat, (rng k).flatMap (frow (n : Int) (sz : Int)) = turnI n (k * sz)
  | 0 => by simp [rng, turnI]
  | k + 1 => by
    rw [rng_succ, List.flatMap_append, frows_flat n sz k, List.flatMap_cons, List.flatMap_nil, List.append_nil, frow_nat]
    unfold turnI
    rw [Nat.succ_mul, List.range_add, List.map_append, List.map_map]
    rfl
theorem near_frow {n sz i : Int} (hs : 0 ≤ sz) : nearR (sz - 1) (frow n sz i) = frow n sz i := by
  unfold nearR
  rw [List.take_of_length_le]
  unfold frow
  rw [List.length_map, rng_len]
  omega
theorem flat_near {n k f : Int} (k0 : 0 ≤ k) (f0 : 0 ≤ f) (n0 : 0 ≤ n) : (frows n k (f + 1)).flatMap (nearR f) = turnI n.toNat (k.toNat * (f + 1).toNat) := by
  have h : ∀ l : List Int, (l.map (frow n (f + 1))).flatMap (nearR f) = l.flatMap (frow n (f + 1)) := fun l => by
    induction l with
    | nil => rfl
    | cons a l ih =>
      rw [List.map_cons, List.flatMap_cons, List.flatMap_cons, ih]
      congr 1
      have := near_frow (n := n) (sz := f + 1) (i := a) (by omega)
      rwa [Int.add_sub_cancel] at this
  unfold frows
  rw [h]
  have := frows_flat n.toNat (f + 1).toNat k.toNat
  rwa [Int.toNat_of_nonneg n0, Int.toNat_of_nonneg (by omega)] at this
def dueF (n k f : Int) : Int := (((k.toNat * (f + 1).toNat) / n.toNat + if 0 < (k.toNat * (f + 1).toNat) % n.toNat then 1 else 0 : Nat) : Int)
section
variable {n k f : Int}
theorem load_fair (n1 : 1 ≤ n) (n2 : n ≤ 30) (k1 : 0 ≤ k) (k2 : k ≤ 60) (f1 : 0 ≤ f) (f2 : f ≤ n - 1) : mxl (loadsI n (frows n k (f + 1)) f) = dueF n k f := by
  have hF := frows_farm n1 n2 k1 k2 f1 f2
  have hflat := flat_near (n := n) (k := k) (f := f) k1 f1 (by omega)
  have hload : ∀ s : Nat, s < n.toNat → loadOf (frows n k (f + 1)) f (s : Int) = (k.toNat * (f + 1).toNat) / n.toNat + if s < (k.toNat * (f + 1).toNat) % n.toNat then 1 else 0 := fun s hs => by
    rw [← count_load (t := f) (s : Int) hF.row, hflat, count_turnI (by omega) hs]
  obtain ⟨m1, m2, m3⟩ := mxl_ok (loads_ne (n := n) (rows := frows n k (f + 1)) (t := f) n1)
  have hup : mxl (loadsI n (frows n k (f + 1)) f) ≤ dueF n k f := by
    obtain ⟨i, hi⟩ := List.mem_iff_getElem?.mp m2
    obtain ⟨i1, i2⟩ := loads_at hi
    rw [i2, hload i i1]
    unfold dueF
    by_cases h : i < (k.toNat * (f + 1).toNat) % n.toNat
    · rw [if_pos h, if_pos (by omega)]
      exact Int.le_refl _
    · rw [if_neg h]
      split <;> omega
  have hlo : dueF n k f ≤ mxl (loadsI n (frows n k (f + 1)) f) := by
    refine m3 _ (List.mem_map.mpr ⟨0, List.mem_map.mpr ⟨0, List.mem_range.mpr (by omega), rfl⟩, ?_⟩)
    have := hload 0 (by omega)
    unfold dueF
    rw [← this]
    rfl
  omega
theorem mul_nat (k1 : 0 ≤ k) (f1 : 0 ≤ f) : k * (f + 1) = ((k.toNat * (f + 1).toNat : Nat) : Int) := by
  rw [Int.natCast_mul, Int.toNat_of_nonneg k1, Int.toNat_of_nonneg (by omega)]
theorem due_law (n1 : 1 ≤ n) (k1 : 0 ≤ k) (f1 : 0 ≤ f) : (k * (f + 1)).fdiv n + (if decide (0 < (k * (f + 1)).fmod n) then 1 else 0) = dueF n k f := by
  rw [mul_nat k1 f1]
  unfold dueF
  generalize k.toNat * (f + 1).toNat = M
  obtain ⟨nn, rfl⟩ : ∃ nn : Nat, n = (nn : Int) := ⟨n.toNat, by omega⟩
  rw [Int.toNat_natCast, Int.fdiv_eq_ediv_of_nonneg _ (Int.natCast_nonneg nn), Int.fmod_eq_emod_of_nonneg _ (Int.natCast_nonneg nn), ← Int.natCast_ediv, ← Int.natCast_emod]
  by_cases h : 0 < M % nn
  · have h2 : (0 : Int) < ((M % nn : Nat) : Int) := by omega
    simp only [h2, decide_true, if_true, h]
    omega
  · have h2 : ¬ (0 : Int) < ((M % nn : Nat) : Int) := by omega
    simp only [h2, decide_false, h, if_false]
    simp
theorem due_lwl (n1 : 1 ≤ n) (k1 : 0 ≤ k) (f1 : 0 ≤ f) : (k * (f + 1) + n - 1).fdiv n = dueF n k f := by
  rw [mul_nat k1 f1]
  unfold dueF
  generalize k.toNat * (f + 1).toNat = M
  obtain ⟨nn, rfl⟩ : ∃ nn : Nat, n = (nn : Int) := ⟨n.toNat, by omega⟩
  rw [Int.toNat_natCast, ← ceil_turn (by omega), Int.fdiv_eq_ediv_of_nonneg _ (Int.natCast_nonneg nn)]
  have h : (M : Int) + (nn : Int) - 1 = ((M + nn - 1 : Nat) : Int) := by omega
  rw [h, Int.natCast_ediv]
theorem fr_long {l : List Int} (h : l.length = (f + 1).toNat) (f1 : 0 ≤ f) : sNe (.int (l.length : Nat)) (.int (f + 1)) = some (.bl false) := by
  rw [sNe_int, decide_eq_true (by omega)]
  rfl
theorem tup_three {f g j : M D} {ρ : Cells} {a b d : D} (h1 : f ρ = .ok a ρ) (h2 : g ρ = .ok b ρ) (h3 : j ρ = .ok d ρ) : mTup [f, g, j] ρ = .ok (.tup [a, b, d]) ρ := by
  unfold mTup M.bind
  simp only [seqM, M.bind, h1, h2, h3, Out.andThen, M.pure]
theorem andV_tt {f g : M D} {ρ ρ1 ρ2 : Cells} {d : D} (h1 : f ρ = .ok (.bl true) ρ1) (h2 : g ρ1 = .ok d ρ2) : mAndV f g ρ = .ok d ρ2 := by
  unfold mAndV M.bind
  rw [mB_ok h1]
  exact h2
theorem e_fright (n1 : 1 ≤ n) (n2 : n ≤ 30) (k1 : 0 ≤ k) (k2 : k ≤ 60) (f1 : 0 ≤ f) (f2 : f ≤ n - 1) : m_law_fair_right [.int n, .int k, .int f] = .ret (.bl true) [] := by
  have hF := frows_farm n1 n2 k1 k2 f1 f2
  have e1 := e_fair n1 n2 k1 k2 f1 f2
  have e2 := e_worst hF f1
  rw [load_fair n1 n2 k1 k2 f1 f2] at e2
  have e3 := e_lwl n1 n2 k1 k2 f1 f2
  rw [due_lwl n1 k1 f1] at e3
  have e4 := e_wright hF f1
  have hlen : (frows n k (f + 1)).length = k.toNat := by
    unfold frows
    rw [List.length_map, rng_len]
  have hrl : ∀ r ∈ frows n k (f + 1), r.length = (f + 1).toNat := fun r hr => by
    obtain ⟨i, hi, rfl⟩ := List.mem_map.mp hr
    unfold frow
    rw [List.length_map, rng_len]
  have hdue := due_law n1 k1 f1
  generalize frows n k (f + 1) = rows at *
  generalize dueF n k f = du at *
  have hm : sMul (.int k) (.int (f + 1)) = some (.int (k * (f + 1))) := sMul_l (inR_small k1 (by omega))
  have hm2 : mOp2 sMul (.dat (mVar 1)) (.dat (mVar 3)) [.dat (.int n), .dat (.int k), .dat (.int f), .dat (.int (f + 1)), .no, .no, .no] = .ok (.int (k * (f + 1))) [.dat (.int n), .dat (.int k), .dat (.int f), .dat (.int (f + 1)), .no, .no, .no] := mOp2_dd (x := .int k) (y := .int (f + 1)) rfl rfl hm
  generalize k * (f + 1) = Mz at hm2 hdue
  have hd : sFdiv (.int Mz) (.int n) = some (.int (Mz.fdiv n)) := if_pos ⟨by omega, by omega⟩
  have hmo : sMod (.int Mz) (.int n) = some (.int (Mz.fmod n)) := if_pos (by omega)
  have s1 : mAsg (mOp2 sAdd (.dat (mVar 2)) (.dat (M.pure (.int 1)))) (gNm 3) [.dat (.int n), .dat (.int k), .dat (.int f), .no, .no, .no, .no] = .next [.dat (.int n), .dat (.int k), .dat (.int f), .dat (.int (f + 1)), .no, .no, .no] := mAsg_ok (mOp2_dd (x := .int f) (y := .int 1) rfl rfl rfl) rfl
  have g1 : mOp2 sGt (.dat (mOp2 sMod (.dat (mOp2 sMul (.dat (mVar 1)) (.dat (mVar 3)))) (.dat (mVar 0)))) (.dat (M.pure (.int 0))) [.dat (.int n), .dat (.int k), .dat (.int f), .dat (.int (f + 1)), .no, .no, .no] = .ok (.bl (decide (0 < Mz.fmod n))) [.dat (.int n), .dat (.int k), .dat (.int f), .dat (.int (f + 1)), .no, .no, .no] := mOp2_dd (y := .int 0) (mOp2_dd (y := .int n) hm2 rfl hmo) rfl rfl
  have g2 : mCall sInt [(.dat (mOp2 sGt (.dat (mOp2 sMod (.dat (mOp2 sMul (.dat (mVar 1)) (.dat (mVar 3)))) (.dat (mVar 0)))) (.dat (M.pure (.int 0)))))] [.dat (.int n), .dat (.int k), .dat (.int f), .dat (.int (f + 1)), .no, .no, .no] = .ok (.int (if decide (0 < Mz.fmod n) then 1 else 0)) [.dat (.int n), .dat (.int k), .dat (.int f), .dat (.int (f + 1)), .no, .no, .no] := call1 g1 rfl
  have s2 : mAsg (mOp2 sAdd (.dat (mOp2 sFdiv (.dat (mOp2 sMul (.dat (mVar 1)) (.dat (mVar 3)))) (.dat (mVar 0)))) (.dat (mCall sInt [(.dat (mOp2 sGt (.dat (mOp2 sMod (.dat (mOp2 sMul (.dat (mVar 1)) (.dat (mVar 3)))) (.dat (mVar 0)))) (.dat (M.pure (.int 0)))))]))) (gNm 4) [.dat (.int n), .dat (.int k), .dat (.int f), .dat (.int (f + 1)), .no, .no, .no] = .next [.dat (.int n), .dat (.int k), .dat (.int f), .dat (.int (f + 1)), .dat (.int du), .no, .no] := by
    refine mAsg_ok (d := .int du) (mOp2_dd (mOp2_dd (y := .int n) hm2 rfl hd) g2 ?_) rfl
    rw [← hdue]
    rfl
  have s3 : mAsg (mCallF m_fair_farm [(.dat (mVar 0)), (.dat (mVar 1)), (.dat (mVar 2))]) (gNm 5) [.dat (.int n), .dat (.int k), .dat (.int f), .dat (.int (f + 1)), .dat (.int du), .no, .no] = .next [.dat (.int n), .dat (.int k), .dat (.int f), .dat (.int (f + 1)), .dat (.int du), .dat (farmD n rows f), .no] := mAsg_ok (callF3 rfl rfl rfl e1) rfl
  have t1 : mB (mOp2 sNe (.dat (mTup [(mMethF m_Farm_servers "servers" (mVar 5) []), (mLenF m_Farmdd_lendd (mVar 5)), (mMethF m_Farm_failures "failures" (mVar 5) [])])) (.dat (mTup [(mVar 0), (mVar 1), (mVar 2)]))) [.dat (.int n), .dat (.int k), .dat (.int f), .dat (.int (f + 1)), .dat (.int du), .dat (farmD n rows f), .no] = .ok false [.dat (.int n), .dat (.int k), .dat (.int f), .dat (.int (f + 1)), .dat (.int du), .dat (farmD n rows f), .no] := by
    have q1 : mLenF m_Farmdd_lendd (mVar 5) [.dat (.int n), .dat (.int k), .dat (.int f), .dat (.int (f + 1)), .dat (.int du), .dat (farmD n rows f), .no] = .ok (.int (rows.length : Nat)) [.dat (.int n), .dat (.int k), .dat (.int f), .dat (.int (f + 1)), .dat (.int du), .dat (farmD n rows f), .no] := mLenF_ok rfl rfl (e_len n rows f) (small63 (by omega))
    have q2 : ((rows.length : Nat) : Int) = k := by omega
    rw [q2] at q1
    exact mB_ok (mOp2_dd (tup_three (meth0 (f := mVar 5) rfl nn_servers (e_servers n f rows)) q1 (meth0 (f := mVar 5) rfl nn_failures (e_failures n f rows))) (tup_three rfl rfl rfl) (sNe_tup_same [n, k, f]))
  have t2 : mLc (mSeqI (mMethF m_Farm_lists "lists" (mVar 5) [])) (gNm 6) (mB (mOp2 sNe (.dat (mCall sLen [(.dat (mVar 6))])) (.dat (mVar 3)))) (mVar 6) [6] [.dat (.int n), .dat (.int k), .dat (.int f), .dat (.int (f + 1)), .dat (.int du), .dat (farmD n rows f), .no] = .ok (D.lst (List.map D.int [])) [.dat (.int n), .dat (.int k), .dat (.int f), .dat (.int (f + 1)), .dat (.int du), .dat (farmD n rows f), .no] := by
    rw [mLc_pure (ds := rows.map rowD) (fun _ => false) id (by unfold mSeqI M.bind; rw [meth0 (f := mVar 5) rfl nn_lists (e_lists n rows f)]; rfl) (by simp [isOwn]) (fun e he => by
      obtain ⟨r, hr, rfl⟩ := List.mem_map.mp he
      refine ⟨[.dat (.int n), .dat (.int k), .dat (.int f), .dat (.int (f + 1)), .dat (.int du), .dat (farmD n rows f), .dat (rowD r)], by simp [gNm, wipeC], mB_ok (mOp2_dd (x := .int (r.length : Nat)) (y := .int (f + 1)) (call1 rfl (by simp [sLen, rowD])) rfl (fr_long (hrl r hr) f1)), (fun z => nomatch z), by simp [wipeC]⟩)]
    rw [List.filter_eq_nil_iff.mpr (fun _ _ => by simp)]
    rfl
  have t3 := mNe_dd (l := []) t2
  have t4 : mB (mOp2 sNe (.dat (mOp2 sIx (.dat (mCallF m_worst_load [(.dat (mVar 5))])) (.dat (M.pure (.int 0))))) (.dat (mVar 4))) [.dat (.int n), .dat (.int k), .dat (.int f), .dat (.int (f + 1)), .dat (.int du), .dat (farmD n rows f), .no] = .ok false [.dat (.int n), .dat (.int k), .dat (.int f), .dat (.int (f + 1)), .dat (.int du), .dat (farmD n rows f), .no] := by
    have q := sNe_int du du
    rw [decide_eq_true rfl] at q
    exact mB_ok (mOp2_dd (x := .int du) (y := .int du) (mOp2_dd (callF1 (f := mVar 5) rfl e2) (show M.pure (D.int 0) _ = .ok (.int 0) _ from rfl) (atI_nat [D.int du, .int (wIx n rows f)] 0)) rfl q)
  have t5 : mOp2 sEq (.dat (mCallF m_least_worst_load [(.dat (mVar 0)), (.dat (mVar 1)), (.dat (mVar 2))])) (.dat (mVar 4)) [.dat (.int n), .dat (.int k), .dat (.int f), .dat (.int (f + 1)), .dat (.int du), .dat (farmD n rows f), .no] = .ok (.bl true) [.dat (.int n), .dat (.int k), .dat (.int f), .dat (.int (f + 1)), .dat (.int du), .dat (farmD n rows f), .no] := by
    have q := sEq_int du du
    rw [decide_eq_true rfl] at q
    exact mOp2_dd (callF3 rfl rfl rfl e3) (y := .int du) rfl q
  have fin : b_law_fair_right [.dat (.int n), .dat (.int k), .dat (.int f), .no, .no, .no, .no] = .ret (.bl true) [.dat (.int n), .dat (.int k), .dat (.int f), .dat (.int (f + 1)), .dat (.int du), .dat (farmD n rows f), .no] := by
    unfold b_law_fair_right
    rw [mSeq_next s1, mSeq_next s2, mSeq_next s3]
    rw [mSeq_next (ρ' := [.dat (.int n), .dat (.int k), .dat (.int f), .dat (.int (f + 1)), .dat (.int du), .dat (farmD n rows f), .no]) (by rw [mIfS_f t1]; rfl)]
    rw [mSeq_next (ρ' := [.dat (.int n), .dat (.int k), .dat (.int f), .dat (.int (f + 1)), .dat (.int du), .dat (farmD n rows f), .no]) (by rw [mIfS_f (mOr_ff t3 t4)]; rfl)]
    unfold mRet mDo
    rw [andV_tt t5 (callF1 (f := mVar 5) rfl e4)]
  have h' : b_law_fair_right (initC 7 [] [.int n, .int k, .int f]) = .ret (.bl true) [.dat (.int n), .dat (.int k), .dat (.int f), .dat (.int (f + 1)), .dat (.int du), .dat (farmD n rows f), .no] := by
    rw [show initC 7 [] [.int n, .int k, .int f] = [.dat (.int n), .dat (.int k), .dat (.int f), .no, .no, .no, .no] from rfl]
    exact fin
  unfold m_law_fair_right
  rw [mkFn_ret h']
  rfl
end
end Fx
set_option Elab.async false
set_option linter.all false
set_option maxRecDepth 100000
set_option maxHeartbeats 1000000
namespace Fx
open PySem L2
/-! ### loops and comprehensions over typed items -/
theorem loop_extT {α β : Type} {g : TgM} {body : MS} (St : List D → α → Cells) (em : β → D) (f : β → List D) (N : Nat) : ∀ (xs : List β) (L : List D) (c : α), L.length + (xs.flatMap f).length ≤ N →
    (∀ x ∈ xs, ∀ (L : List D) (c : α), L.length + (f x).length ≤ N → ∃ ρ1 c', g (em x) (St L c) = some ρ1 ∧ body ρ1 = .next (St (L ++ f x) c')) →
    ∃ c', loopM g body (xs.map em) (St L c) = .next (St (L ++ xs.flatMap f) c')
  | [], L, c, _, _ => ⟨c, by rw [List.flatMap_nil, List.append_nil]; rfl⟩
  | x :: xs, L, c, hN, h => by
    rw [List.flatMap_cons, List.length_append] at hN
    obtain ⟨ρ1, c', h1, h2⟩ := h x List.mem_cons_self L c (by omega)
    obtain ⟨c2, e⟩ := loop_extT St em f N xs (L ++ f x) c' (by rw [List.length_append]; omega) fun y hy => h y (List.mem_cons_of_mem _ hy)
    refine ⟨c2, ?_⟩
    rw [List.flatMap_cons, ← List.append_assoc, ← e, List.map_cons]
    conv => lhs; unfold loopM
    simp only [h1, h2]
theorem lcM_T {β : Type} {g : TgM} {tt : M Bool} {fe : M D} {vs : List Nat} {w : Cells} (em : β → D) (P : β → Bool) (f : β → D) : ∀ (xs : List β) (ρ : Cells), wipeC ρ vs = w →
    (∀ x ∈ xs, ∃ ρ1, g (em x) w = some ρ1 ∧ tt ρ1 = .ok (P x) ρ1 ∧ (P x = true → fe ρ1 = .ok (f x) ρ1) ∧ wipeC ρ1 vs = w) →
    ∃ ρ', lcM g tt fe vs (xs.map em) ρ = some ((xs.filter P).map f, ρ') ∧ wipeC ρ' vs = w
  | [], ρ, hw, _ => ⟨ρ, rfl, hw⟩
  | x :: xs, ρ, hw, h => by
    obtain ⟨ρ1, h1, h2, h3, h4⟩ := h x List.mem_cons_self
    obtain ⟨ρ', e, hw'⟩ := lcM_T (g := g) (tt := tt) (fe := fe) em P f xs ρ1 h4 fun y hy => h y (List.mem_cons_of_mem _ hy)
    refine ⟨ρ', ?_, hw'⟩
    rw [List.map_cons]
    unfold lcM
    rw [hw]
    simp only [h1, h2]
    cases hP : P x with
    | true => simp [hP, h3 hP, e]
    | false => simp [hP, e]
theorem mLc_T {β : Type} {fi : M (List D)} {g : TgM} {tt : M Bool} {fe : M D} {vs : List Nat} {ρ : Cells} (em : β → D) (P : β → Bool) (f : β → D) {xs : List β} (hi : fi ρ = .ok (xs.map em) ρ) (ho : vs.all (fun v => !isOwn ρ[v]?) = true)
    (h : ∀ x ∈ xs, ∃ ρ1, g (em x) (wipeC ρ vs) = some ρ1 ∧ tt ρ1 = .ok (P x) ρ1 ∧ (P x = true → fe ρ1 = .ok (f x) ρ1) ∧ wipeC ρ1 vs = wipeC ρ vs) :
    mLc fi g tt fe vs ρ = .ok (.lst ((xs.filter P).map f)) ρ := by
  obtain ⟨ρ', e, hw⟩ := lcM_T (g := g) (tt := tt) (fe := fe) em P f xs ρ rfl h
  unfold mLc M.bind
  rw [hi]
  show (if vs.all (fun v => !isOwn ρ[v]?) = true then _ else _) = _
  rw [if_pos ho, e]
  show Out.ok _ (unwipe ρ ρ' vs) = _
  rw [unwipe_same hw]
theorem filter_true {β : Type} (l : List β) : l.filter (fun _ => true) = l := List.filter_eq_self.mpr fun _ _ => rfl
/-! ### all rising tuples -/
def lastI (l : List Int) : Int := l.getLast?.getD 0
def riseQ (line : List Int) (s : Int) : Bool := decide (line = []) || decide (lastI line < s)
def nextC (n : Int) (line : List Int) : List (List Int) := ((rng n.toNat).filter (riseQ line)).map fun s => line ++ [s]
def chN (n : Int) : Nat → List (List Int)
  | 0 => [[]]
  | i + 1 => (chN n i).flatMap (nextC n)
theorem chN_len (n : Int) : ∀ (i : Nat), ∀ l ∈ chN n i, l.length = i
  | 0, l, h => by
    have : l = [] := by simpa [chN] using h
    rw [this]
    rfl
  | i + 1, l, h => by
    obtain ⟨m, hm, hl⟩ := List.mem_flatMap.mp h
    obtain ⟨s, _, rfl⟩ := List.mem_map.mp hl
    rw [List.length_append, List.length_singleton, chN_len n i m hm]
section
variable {n k f sz : Int}
theorem mOr_t {f g : M Bool} {ρ ρ1 : Cells} (h1 : f ρ = .ok true ρ1) : mOr f g ρ = .ok true ρ1 := by
  unfold mOr M.bind
  rw [h1]
  rfl
theorem mOr_f {f g : M Bool} {ρ ρ1 ρ2 : Cells} {b : Bool} (h1 : f ρ = .ok false ρ1) (h2 : g ρ1 = .ok b ρ2) : mOr f g ρ = .ok b ρ2 := by
  unfold mOr M.bind
  rw [h1]
  exact h2
theorem last_app (w : List Int) (x : Int) : lastI (w ++ [x]) = x := by simp [lastI]
theorem ch_one (n1 : 1 ≤ n) (n2 : n ≤ 30) (line : List Int) (hl : line.length ≤ 1000) (A B C : Cell) : (mLc (mRange1 (mVar 0)) (gNm 6) (mOr (mB (mOp2 sEq (.dat (mVar 5)) (.dat (mTup [])))) (mB (mOp2 sGt (.dat (mVar 6)) (.dat (mOp2 sIx (.dat (mVar 5)) (.dat (mNeg (M.pure (.int 1))))))))) (mOp2 sAdd (.dat (mVar 5)) (.dat (mTup [(mVar 6)]))) [6]) [.dat (.int n), .dat (.int sz), A, B, C, .dat (rowD line), .no] = .ok (.lst ((nextC n line).map rowD)) [.dat (.int n), .dat (.int sz), A, B, C, .dat (rowD line), .no] := by
  rw [mLc_T (xs := rng n.toNat) D.int (riseQ line) (fun s => rowD (line ++ [s])) (by exact range_ok rfl (by omega) (by omega)) (by simp [isOwn]) (fun s hs => by
    refine ⟨[.dat (.int n), .dat (.int sz), A, B, C, .dat (rowD line), .dat (.int s)], by simp [gNm, wipeC], ?_, fun _ => ?_, by simp [wipeC]⟩
    · have h1 := sEq_tup line []
      have h2 : mB (mOp2 sEq (.dat (mVar 5)) (.dat (mTup []))) [.dat (.int n), .dat (.int sz), A, B, C, .dat (rowD line), .dat (.int s)] = .ok (decide (line = [])) [.dat (.int n), .dat (.int sz), A, B, C, .dat (rowD line), .dat (.int s)] := mB_ok (mOp2_dd (x := rowD line) (y := .tup []) rfl rfl h1)
      by_cases e : line = []
      · rw [decide_eq_true e] at h2
        rw [mOr_t h2]
        simp [riseQ, e]
      · rw [decide_eq_false e] at h2
        obtain ⟨w, x, rfl⟩ : ∃ w x, line = w ++ [x] := ⟨line.dropLast, line.getLast e, (List.dropLast_concat_getLast e).symm⟩
        have h3 : sIx (rowD (w ++ [x])) (.int (-1)) = some (.int x) := sIx_last w x
        have h4 : mNeg (M.pure (.int 1)) [.dat (.int n), .dat (.int sz), A, B, C, .dat (rowD (w ++ [x])), .dat (.int s)] = .ok (.int (-1)) [.dat (.int n), .dat (.int sz), A, B, C, .dat (rowD (w ++ [x])), .dat (.int s)] := rfl
        have h5 : mB (mOp2 sGt (.dat (mVar 6)) (.dat (mOp2 sIx (.dat (mVar 5)) (.dat (mNeg (M.pure (.int 1))))))) [.dat (.int n), .dat (.int sz), A, B, C, .dat (rowD (w ++ [x])), .dat (.int s)] = .ok (decide (x < s)) [.dat (.int n), .dat (.int sz), A, B, C, .dat (rowD (w ++ [x])), .dat (.int s)] := mB_ok (mOp2_dd (x := .int s) (y := .int x) rfl (mOp2_dd (x := rowD (w ++ [x])) rfl h4 h3) rfl)
        rw [mOr_f h2 h5]
        simp [riseQ, last_app]
    · have h1 : sAdd (rowD line) (.tup [.int s]) = some (rowD (line ++ [s])) := by
        have q : (line.map D.int).length + 1 ≤ 16777216 := by rw [List.length_map]; omega
        show (if (line.map D.int).length + 1 ≤ 16777216 then some (D.tup (line.map D.int ++ [.int s])) else none) = _
        rw [if_pos q]
        unfold rowD
        rw [List.map_append]
        rfl
      exact mOp2_dd (x := rowD line) (y := .tup [.int s]) rfl rfl h1)]
  unfold nextC
  rw [List.map_map]
  rfl
theorem flat_map {β γ : Type} (f : β → List γ) (h : γ → D) (l : List β) : l.flatMap (fun x => (f x).map h) = (l.flatMap f).map h := by
  rw [List.map_flatMap]
theorem ch_turn (n1 : 1 ≤ n) (n2 : n ≤ 30) (i : Nat) (hi : i ≤ 1000) (hb : (chN n (i + 1)).length ≤ 1000) (B D0 : Cell) :
    ∃ d, (mFor (mSeqI (mVar 2)) (gNm 5) (mExpr (mMethW wExtend 4 [(.dat (mLc (mRange1 (mVar 0)) (gNm 6) (mOr (mB (mOp2 sEq (.dat (mVar 5)) (.dat (mTup [])))) (mB (mOp2 sGt (.dat (mVar 6)) (.dat (mOp2 sIx (.dat (mVar 5)) (.dat (mNeg (M.pure (.int 1))))))))) (mOp2 sAdd (.dat (mVar 5)) (.dat (mTup [(mVar 6)]))) [6]))]))) [.dat (.int n), .dat (.int sz), .dat (.lst ((chN n i).map rowD)), B, .own (.lst []), D0, .no] = .next [.dat (.int n), .dat (.int sz), .dat (.lst ((chN n i).map rowD)), B, .own (.lst ((chN n (i + 1)).map rowD)), d, .no] := by
  obtain ⟨d, e⟩ := loop_extT (g := gNm 5) (body := mExpr (mMethW wExtend 4 [(.dat (mLc (mRange1 (mVar 0)) (gNm 6) (mOr (mB (mOp2 sEq (.dat (mVar 5)) (.dat (mTup [])))) (mB (mOp2 sGt (.dat (mVar 6)) (.dat (mOp2 sIx (.dat (mVar 5)) (.dat (mNeg (M.pure (.int 1))))))))) (mOp2 sAdd (.dat (mVar 5)) (.dat (mTup [(mVar 6)]))) [6]))])) (fun L d => [.dat (.int n), .dat (.int sz), .dat (.lst ((chN n i).map rowD)), B, .own (.lst L), d, .no]) rowD (fun line => (nextC n line).map rowD) 1000 (chN n i) [] D0 (by
    rw [flat_map, List.length_nil, List.length_map, Nat.zero_add]
    exact hb) (fun line hl L d hN => by
    refine ⟨[.dat (.int n), .dat (.int sz), .dat (.lst ((chN n i).map rowD)), B, .own (.lst L), .dat (rowD line), .no], .dat (rowD line), rfl, ?_⟩
    exact ext_ok rfl (ch_one n1 n2 line (by rw [chN_len n i line hl]; exact hi) _ _ _) (by omega))
  rw [flat_map] at e
  exact ⟨d, by rw [mFor_next (ds := (chN n i).map rowD) (ρ1 := [.dat (.int n), .dat (.int sz), .dat (.lst ((chN n i).map rowD)), B, .own (.lst []), D0, .no]) (by rfl)]; exact e⟩
theorem e_choices (n1 : 1 ≤ n) (n2 : n ≤ 30) (s1 : 0 ≤ sz) (s2 : sz ≤ 30) (hb : ∀ i, i ≤ sz.toNat → (chN n i).length ≤ 1000) : m_law_choices [.int n, .int sz] = .ret (.lst ((chN n sz.toNat).map rowD)) [] := by
  obtain ⟨ρ', e, B, C, D0, hρ⟩ := loop_inv (g := gNm 3) (body := (mSeq (mNew (mLst []) 4) (mSeq (mFor (mSeqI (mVar 2)) (gNm 5) (mExpr (mMethW wExtend 4 [(.dat (mLc (mRange1 (mVar 0)) (gNm 6) (mOr (mB (mOp2 sEq (.dat (mVar 5)) (.dat (mTup [])))) (mB (mOp2 sGt (.dat (mVar 6)) (.dat (mOp2 sIx (.dat (mVar 5)) (.dat (mNeg (M.pure (.int 1))))))))) (mOp2 sAdd (.dat (mVar 5)) (.dat (mTup [(mVar 6)]))) [6]))]))) (mFrz 4 (mAsg (mVar 4) (gNm 2))))))
    (fun i ρ => ∃ B C D0, ρ = [.dat (.int n), .dat (.int sz), .dat (.lst ((chN n i).map rowD)), B, C, D0, .no]) ((rng sz.toNat).map .int) 0 [.dat (.int n), .dat (.int sz), .dat (.lst ((chN n 0).map rowD)), .no, .no, .no, .no] ⟨.no, .no, .no, rfl⟩
    (fun i dd ρ hd ⟨B, C, D0, hρ⟩ => by
      rw [Nat.zero_add] at hρ ⊢
      subst hρ
      have hi := (List.getElem?_eq_some_iff.mp hd).1
      rw [List.length_map, rng_len] at hi
      obtain ⟨d, e⟩ := ch_turn (sz := sz) n1 n2 i (by omega) (hb (i + 1) (by omega)) (.dat dd) D0
      refine ⟨[.dat (.int n), .dat (.int sz), .dat (.lst ((chN n i).map rowD)), .dat dd, C, D0, .no], rfl, [.dat (.int n), .dat (.int sz), .dat (.lst ((chN n (i + 1)).map rowD)), .dat dd, .dat (.lst ((chN n (i + 1)).map rowD)), d, .no], ?_, _, _, _, rfl⟩
      rw [mSeq_next (ρ' := [.dat (.int n), .dat (.int sz), .dat (.lst ((chN n i).map rowD)), .dat dd, .own (.lst []), D0, .no]) (by rfl)]
      rw [mSeq_next e]
      rfl)
  subst hρ
  rw [Nat.zero_add, List.length_map, rng_len] at e
  have fin : b_law_choices [.dat (.int n), .dat (.int sz), .no, .no, .no, .no, .no] = .ret (.lst ((chN n sz.toNat).map rowD)) [.dat (.int n), .dat (.int sz), .dat (.lst ((chN n sz.toNat).map rowD)), B, C, D0, .no] := by
    unfold b_law_choices
    rw [mSeq_next (ρ' := [.dat (.int n), .dat (.int sz), .dat (.lst ((chN n 0).map rowD)), .no, .no, .no, .no]) (by rfl)]
    rw [mSeq_next (by rw [mFor_next (ds := (rng sz.toNat).map .int) (ρ1 := [.dat (.int n), .dat (.int sz), .dat (.lst ((chN n 0).map rowD)), .no, .no, .no, .no]) (by exact range_ok rfl (by omega) (by omega))]; exact e)]
    rfl
  have h' : b_law_choices (initC 7 [] [.int n, .int sz]) = .ret (.lst ((chN n sz.toNat).map rowD)) [.dat (.int n), .dat (.int sz), .dat (.lst ((chN n sz.toNat).map rowD)), B, C, D0, .no] := fin
  unfold m_law_choices
  rw [mkFn_ret h']
  rfl
end
end Fx
set_option Elab.async false
set_option linter.all false
set_option maxRecDepth 100000
set_option maxHeartbeats 1000000
namespace Fx
open PySem L2
section
variable {n k f : Int}
/-! ### all lists of so many rows -/
def rsD (rows : List (List Int)) : D := .lst (rows.map rowD)
def nextR (n : Int) (sz : Nat) (some : List (List Int)) : List (List (List Int)) := (chN n sz).map fun line => some ++ [line]
def rwN (n : Int) (sz : Nat) : Nat → List (List (List Int))
  | 0 => [[]]
  | i + 1 => (rwN n sz i).flatMap (nextR n sz)
theorem rwN_len (n : Int) (sz : Nat) : ∀ (i : Nat), ∀ l ∈ rwN n sz i, l.length = i
  | 0, l, h => by
    have : l = [] := by simpa [rwN] using h
    rw [this]
    rfl
  | i + 1, l, h => by
    obtain ⟨m, hm, hl⟩ := List.mem_flatMap.mp h
    obtain ⟨s, _, rfl⟩ := List.mem_map.mp hl
    rw [List.length_append, List.length_singleton, rwN_len n sz i m hm]
theorem seqI_ok {f : M D} {ρ ρ1 : Cells} {d : D} {ds : List D} (h : f ρ = .ok d ρ1) (h2 : itemsOf d = some ds) : mSeqI f ρ = .ok ds ρ1 := by
  unfold mSeqI M.bind
  rw [h]
  show M.lift (itemsOf d) ρ1 = _
  rw [h2]
  rfl
theorem rw_one (hch : m_law_choices [.int n, .int (f + 1)] = .ret (.lst ((chN n (f + 1).toNat).map rowD)) []) (some : List (List Int)) (hl : some.length ≤ 1000) (A B C : Cell) : (mLc (mSeqI (mCallF m_law_choices [(.dat (mVar 0)), (.dat (mOp2 sAdd (.dat (mVar 2)) (.dat (M.pure (.int 1)))))])) (gNm 7) (M.pure true) (mOp2 sAdd (.dat (mVar 6)) (.dat (mLst [(mVar 7)]))) [7]) [.dat (.int n), .dat (.int k), .dat (.int f), A, B, C, .dat (rsD some), .no] = .ok (.lst ((nextR n (f + 1).toNat some).map rsD)) [.dat (.int n), .dat (.int k), .dat (.int f), A, B, C, .dat (rsD some), .no] := by
  rw [mLc_T (xs := chN n (f + 1).toNat) rowD (fun _ => true) (fun line => rsD (some ++ [line])) (by exact seqI_ok (callF2 (a := .int n) (b := .int (f + 1)) rfl (mOp2_dd (x := .int f) (y := .int 1) rfl rfl rfl) hch) rfl) (by simp [isOwn]) (fun line hs => by
    refine ⟨[.dat (.int n), .dat (.int k), .dat (.int f), A, B, C, .dat (rsD some), .dat (rowD line)], by simp [gNm, wipeC], rfl, fun _ => ?_, by simp [wipeC]⟩
    have h1 : sAdd (rsD some) (.lst [rowD line]) = Option.some (rsD (some ++ [line])) := by
      have q : (some.map rowD).length + 1 ≤ 16777216 := by rw [List.length_map]; omega
      show (if (some.map rowD).length + 1 ≤ 16777216 then Option.some (D.lst (some.map rowD ++ [rowD line])) else none) = _
      rw [if_pos q]
      unfold rsD
      rw [List.map_append]
      rfl
    exact mOp2_dd (x := rsD some) (y := .lst [rowD line]) rfl rfl h1)]
  rw [filter_true]
  unfold nextR
  rw [List.map_map]
  rfl
def cellO : Option D → Cell
  | none => .no
  | some d => .dat d
theorem cellO_no (o : Option D) : isOwn (some (cellO o)) = false := by cases o <;> rfl
theorem rw_turn (hch : m_law_choices [.int n, .int (f + 1)] = .ret (.lst ((chN n (f + 1).toNat).map rowD)) []) (i : Nat) (hi : i ≤ 1000) (hb : (rwN n (f + 1).toNat (i + 1)).length ≤ 1000) (B : Cell) (D0 : Option D) :
    ∃ d : Option D, (mFor (mSeqI (mVar 3)) (gNm 6) (mExpr (mMethW wExtend 5 [(.dat (mLc (mSeqI (mCallF m_law_choices [(.dat (mVar 0)), (.dat (mOp2 sAdd (.dat (mVar 2)) (.dat (M.pure (.int 1)))))])) (gNm 7) (M.pure true) (mOp2 sAdd (.dat (mVar 6)) (.dat (mLst [(mVar 7)]))) [7]))]))) [.dat (.int n), .dat (.int k), .dat (.int f), .dat (.lst ((rwN n (f + 1).toNat i).map rsD)), B, .own (.lst []), cellO D0, .no] = .next [.dat (.int n), .dat (.int k), .dat (.int f), .dat (.lst ((rwN n (f + 1).toNat i).map rsD)), B, .own (.lst ((rwN n (f + 1).toNat (i + 1)).map rsD)), cellO d, .no] := by
  obtain ⟨d, e⟩ := loop_extT (g := gNm 6) (body := mExpr (mMethW wExtend 5 [(.dat (mLc (mSeqI (mCallF m_law_choices [(.dat (mVar 0)), (.dat (mOp2 sAdd (.dat (mVar 2)) (.dat (M.pure (.int 1)))))])) (gNm 7) (M.pure true) (mOp2 sAdd (.dat (mVar 6)) (.dat (mLst [(mVar 7)]))) [7]))])) (fun L (d : Option D) => [.dat (.int n), .dat (.int k), .dat (.int f), .dat (.lst ((rwN n (f + 1).toNat i).map rsD)), B, .own (.lst L), cellO d, .no]) rsD (fun line => (nextR n (f + 1).toNat line).map rsD) 1000 (rwN n (f + 1).toNat i) [] D0 (by
    rw [flat_map, List.length_nil, List.length_map, Nat.zero_add]
    exact hb) (fun line hl L d hN => by
    refine ⟨[.dat (.int n), .dat (.int k), .dat (.int f), .dat (.lst ((rwN n (f + 1).toNat i).map rsD)), B, .own (.lst L), .dat (rsD line), .no], some (rsD line), rfl, ?_⟩
    exact ext_ok rfl (rw_one hch line (by rw [rwN_len n _ i line hl]; exact hi) _ _ _) (by omega))
  rw [flat_map] at e
  exact ⟨d, by rw [mFor_next (ds := (rwN n (f + 1).toNat i).map rsD) (ρ1 := [.dat (.int n), .dat (.int k), .dat (.int f), .dat (.lst ((rwN n (f + 1).toNat i).map rsD)), B, .own (.lst []), cellO D0, .no]) (by rfl)]; exact e⟩
/-- all that is asked of small numbers -/
def rowOkB (n : Int) (r : List Int) : Bool := decide (r ≠ []) && (r.all fun v => decide (0 ≤ v) && decide (v < n)) && decide r.Nodup && decide (r.length ≤ 4000)
theorem rowOkB_ok {r : List Int} (h : rowOkB n r = true) : RowOk n r := by
  unfold rowOkB at h
  simp only [Bool.and_eq_true, decide_eq_true_eq, List.all_eq_true] at h
  exact ⟨h.1.1.1, fun v hv => h.1.1.2 v hv, h.1.2, h.2⟩
def maxes (n k f : Int) : List Int := (rwN n (f + 1).toNat k.toNat).map fun rows => mxl (loadsI n rows f)
def smallB (n k f : Int) : Bool := ((List.range ((f + 1).toNat + 1)).all fun i => decide ((chN n i).length ≤ 1000)) && ((List.range (k.toNat + 1)).all fun i => decide ((rwN n (f + 1).toNat i).length ≤ 1000)) && ((rwN n (f + 1).toNat k.toNat).all fun rows => rows.all (rowOkB n)) && decide (minI (maxes n k f) = some (dueF n k f))
theorem small_ok (n1 : 1 ≤ n) (n2 : n ≤ 3) (k1 : 0 ≤ k) (k2 : k ≤ 3) (f1 : 0 ≤ f) (f2 : f ≤ n - 1) : smallB n k f = true := by
  have hn : n = 1 ∨ n = 2 ∨ n = 3 := by omega
  have hk : k = 0 ∨ k = 1 ∨ k = 2 ∨ k = 3 := by omega
  have hf : f = 0 ∨ f = 1 ∨ f = 2 := by omega
  rcases hn with rfl | rfl | rfl <;> rcases hf with rfl | rfl | rfl <;> first | omega | (rcases hk with rfl | rfl | rfl | rfl <;> decide +kernel)
theorem e_least (n1 : 1 ≤ n) (n2 : n ≤ 3) (k1 : 0 ≤ k) (k2 : k ≤ 3) (f1 : 0 ≤ f) (f2 : f ≤ n - 1) : m_law_least [.int n, .int k, .int f] = .ret (.int (dueF n k f)) [] := by
  have hs := small_ok n1 n2 k1 k2 f1 f2
  unfold smallB at hs
  simp only [Bool.and_eq_true, decide_eq_true_eq, List.all_eq_true, List.mem_range] at hs
  obtain ⟨⟨⟨hs1, hs2⟩, hs3⟩, hs4⟩ := hs
  have hch := e_choices (n := n) (sz := f + 1) n1 (by omega) (by omega) (by omega) (fun i hi => hs1 i (by omega))
  obtain ⟨ρ', e, B, C, D0, hρ⟩ := loop_inv (g := gNm 4) (body := (mSeq (mNew (mLst []) 5) (mSeq (mFor (mSeqI (mVar 3)) (gNm 6) (mExpr (mMethW wExtend 5 [(.dat (mLc (mSeqI (mCallF m_law_choices [(.dat (mVar 0)), (.dat (mOp2 sAdd (.dat (mVar 2)) (.dat (M.pure (.int 1)))))])) (gNm 7) (M.pure true) (mOp2 sAdd (.dat (mVar 6)) (.dat (mLst [(mVar 7)]))) [7]))]))) (mFrz 5 (mAsg (mVar 5) (gNm 3))))))
    (fun i ρ => ∃ (B C : Cell) (D0 : Option D), ρ = [.dat (.int n), .dat (.int k), .dat (.int f), .dat (.lst ((rwN n (f + 1).toNat i).map rsD)), B, C, cellO D0, .no]) ((rng k.toNat).map .int) 0 [.dat (.int n), .dat (.int k), .dat (.int f), .dat (.lst ((rwN n (f + 1).toNat 0).map rsD)), .no, .no, .no, .no] ⟨.no, .no, none, rfl⟩
    (fun i dd ρ hd ⟨B, C, D0, hρ⟩ => by
      rw [Nat.zero_add] at hρ ⊢
      subst hρ
      have hi := (List.getElem?_eq_some_iff.mp hd).1
      rw [List.length_map, rng_len] at hi
      obtain ⟨d, e⟩ := rw_turn (k := k) hch i (by omega) (hs2 (i + 1) (by omega)) (.dat dd) D0
      refine ⟨[.dat (.int n), .dat (.int k), .dat (.int f), .dat (.lst ((rwN n (f + 1).toNat i).map rsD)), .dat dd, C, cellO D0, .no], rfl, [.dat (.int n), .dat (.int k), .dat (.int f), .dat (.lst ((rwN n (f + 1).toNat (i + 1)).map rsD)), .dat dd, .dat (.lst ((rwN n (f + 1).toNat (i + 1)).map rsD)), cellO d, .no], ?_, _, _, d, rfl⟩
      rw [mSeq_next (ρ' := [.dat (.int n), .dat (.int k), .dat (.int f), .dat (.lst ((rwN n (f + 1).toNat i).map rsD)), .dat dd, .own (.lst []), cellO D0, .no]) (by rfl)]
      rw [mSeq_next e]
      rfl)
  subst hρ
  rw [Nat.zero_add, List.length_map, rng_len] at e
  have hl : mLc (mSeqI (mVar 3)) (gNm 6) (M.pure true) (mCall sMax [(.dat (mCallF m_law_counts [(.dat (mMake m_Farmdd_initdd [(mVar 0), (mVar 6), (mVar 2)]))]))]) [6] [.dat (.int n), .dat (.int k), .dat (.int f), .dat (.lst ((rwN n (f + 1).toNat k.toNat).map rsD)), B, C, cellO D0, .no] = .ok (D.lst (List.map D.int (maxes n k f))) [.dat (.int n), .dat (.int k), .dat (.int f), .dat (.lst ((rwN n (f + 1).toNat k.toNat).map rsD)), B, C, cellO D0, .no] := by
    rw [mLc_T (xs := rwN n (f + 1).toNat k.toNat) rsD (fun _ => true) (fun rows => .int (mxl (loadsI n rows f))) (by rfl) (by simp [cellO_no]) (fun rows hr => by
      have hrow : ∀ r ∈ rows, RowOk n r := fun r hx => rowOkB_ok (hs3 rows hr r hx)
      have hl := rwN_len n _ _ rows hr
      have e1 := e_make n1 (by omega) (by omega) hrow f1 (show f ≤ n by omega)
      have e2 := e_counts (rows := rows) n1 (show n ≤ 30 by omega) f1
      refine ⟨[.dat (.int n), .dat (.int k), .dat (.int f), .dat (.lst ((rwN n (f + 1).toNat k.toNat).map rsD)), B, C, .dat (rsD rows), .no], by simp [gNm, wipeC], rfl, fun _ => ?_, by simp [wipeC]⟩
      exact call1 (callF1 (make3 (f := mVar 0) (g := mVar 6) (j := mVar 2) rfl rfl rfl e1) e2) (sMax_l (loads_ne n1)))]
    rw [filter_true]
    unfold maxes
    rw [List.map_map]
    rfl
  have hmin : sMin [(D.lst (List.map D.int (maxes n k f)))] = some (.int (dueF n k f)) := by
    simp only [sMin, intsOf_map, Option.bind_some, hs4, Option.map_some]
  have fin : b_law_least [.dat (.int n), .dat (.int k), .dat (.int f), .no, .no, .no, .no, .no] = .ret (.int (dueF n k f)) [.dat (.int n), .dat (.int k), .dat (.int f), .dat (.lst ((rwN n (f + 1).toNat k.toNat).map rsD)), B, C, cellO D0, .no] := by
    unfold b_law_least
    rw [mSeq_next (ρ' := [.dat (.int n), .dat (.int k), .dat (.int f), .dat (.lst ((rwN n (f + 1).toNat 0).map rsD)), .no, .no, .no, .no]) (by rfl)]
    rw [mSeq_next (by rw [mFor_next (ds := (rng k.toNat).map .int) (ρ1 := [.dat (.int n), .dat (.int k), .dat (.int f), .dat (.lst ((rwN n (f + 1).toNat 0).map rsD)), .no, .no, .no, .no]) (by exact range_ok rfl (by omega) (by omega))]; exact e)]
    unfold mRet mDo
    rw [call1 hl hmin]
  have h' : b_law_least (initC 8 [] [.int n, .int k, .int f]) = .ret (.int (dueF n k f)) [.dat (.int n), .dat (.int k), .dat (.int f), .dat (.lst ((rwN n (f + 1).toNat k.toNat).map rsD)), B, C, cellO D0, .no] := fin
  unfold m_law_least
  rw [mkFn_ret h']
  rfl
end
end Fx
set_option Elab.async false
set_option linter.all false
set_option maxRecDepth 100000
set_option maxHeartbeats 1000000
namespace Fx
open PySem L2
theorem callF1' {F : Fn} {f : M D} {ρ ρ1 : Cells} {a d : D} (h1 : f ρ = .ok a ρ1) (h : F [a] = .ret d []) : mCallF F [.dat f] ρ = .ok d ρ1 := by
  unfold mCallF
  simp [preL, M.bind, Opn.pre, h1, Out.andThen, M.pure, rdA, Opn.rd, setOuts, ownSlots, h]
theorem par_ok {f g : M D} {ρ ρ1 ρ2 : Cells} {i j : Nat} {a b : D} (h1 : f ρ = .ok a ρ1) (h2 : g ρ1 = .ok b ρ2) : mPar f g i j ρ = .next ((ρ2.set i (.dat a)).set j (.dat b)) := by
  unfold mPar mDo
  simp only [h1, h2]
/-- a draw below a constant bound, in any cells behind the well -/
theorem draw_c (a b d : Int) {lim : Int} (h : 0 < lim) (h2 : lim < 1000000) : ∃ r a' b' d', (∀ (f : M D) (ρ : Cells), f (.own (wellD a b d) :: ρ) = .ok (.int lim) (.own (wellD a b d) :: ρ) → (mCallF m_law_draw [(.own 0), (.dat (f))]) (.own (wellD a b d) :: ρ) = .ok (.int r) (.own (wellD a' b' d') :: ρ)) ∧ 0 ≤ r ∧ r < lim := by
  obtain ⟨r, a', b', d', e, q1, q2⟩ := e_draw a b d h h2
  exact ⟨r, a', b', d', fun f ρ hf => callO2 hf e, q1, q2⟩
theorem pick_c (a b d : Int) {x y : Int} (h1 : 0 < x) (h2 : x ≤ 1000) (h3 : 0 < y) (h4 : y ≤ 1000) : ∃ r a' b' d', (∀ (ρ : Cells), (mCallF m_law_draw [(.own 0), (.dat (mOp2 sIx (.dat (mLst [(M.pure (.int x)), (M.pure (.int y))])) (.dat (mCallF m_law_draw [(.own 0), (.dat (M.pure (.int 2)))]))))]) (.own (wellD a b d) :: ρ) = .ok (.int r) (.own (wellD a' b' d') :: ρ)) ∧ 0 ≤ r ∧ (r < x ∨ r < y) := by
  obtain ⟨r1, a1, b1, d1, e1, q1, q2⟩ := e_draw a b d (lim := 2) (by omega) (by omega)
  have hr : r1 = 0 ∨ r1 = 1 := by omega
  have key : ∃ z : Int, (z = x ∨ z = y) ∧ sIx (.lst [.int x, .int y]) (.int r1) = some (.int z) := by
    rcases hr with rfl | rfl
    · exact ⟨x, .inl rfl, atI_nat [D.int x, .int y] 0⟩
    · exact ⟨y, .inr rfl, atI_nat [D.int x, .int y] 1⟩
  obtain ⟨z, hz, e2⟩ := key
  obtain ⟨r, a', b', d', e, q3, q4⟩ := e_draw a1 b1 d1 (lim := z) (by omega) (by omega)
  refine ⟨r, a', b', d', fun ρ => callO2 (mOp2_dd (x := .lst [.int x, .int y]) rfl (callO2 rfl e1) e2) e, q3, by omega⟩
theorem e_law_right (a b d k : Int) : ∃ outs, m_law_right [wellD a b d, .int k] = .ret (.bl true) outs := by
  obtain ⟨r1, a1, b1, d1, e1, q1, q2⟩ := pick_c a b d (x := 5) (y := 30) (by omega) (by omega) (by omega) (by omega)
  obtain ⟨n, hn⟩ : ∃ n, n = 1 + r1 := ⟨_, rfl⟩
  obtain ⟨s, a2, b2, d2, e2, q3, q4⟩ := pick_c a1 b1 d1 (x := 7) (y := 61) (by omega) (by omega) (by omega) (by omega)
  obtain ⟨f, a3, b3, d3, e3, q5, q6⟩ := draw_c a2 b2 d2 (lim := n) (by omega) (by omega)
  have e4 := e_fright (n := n) (k := s) (f := f) (by omega) (by omega) q3 (by omega) q5 (by omega)
  obtain ⟨r4, a4, b4, d4, e5, q7, q8⟩ := draw_c a3 b3 d3 (lim := 3) (by omega) (by omega)
  obtain ⟨n2, hn2⟩ : ∃ n2, n2 = 1 + r4 := ⟨_, rfl⟩
  obtain ⟨s2, a5, b5, d5, e6, q9, q10⟩ := draw_c a4 b4 d4 (lim := 4) (by omega) (by omega)
  obtain ⟨f2, a6, b6, d6, e7, q11, q12⟩ := draw_c a5 b5 d5 (lim := n2) (by omega) (by omega)
  have e8 := e_least (n := n2) (k := s2) (f := f2) (by omega) (by omega) q9 (by omega) q11 (by omega)
  have e9 := e_lwl (n := n2) (k := s2) (f := f2) (by omega) (by omega) q9 (by omega) q11 (by omega)
  rw [due_lwl (by omega) q9 q11] at e9
  obtain ⟨r7, a7, b7, d7, e10, q13, q14⟩ := pick_c a6 b6 d6 (x := 9) (y := 30) (by omega) (by omega) (by omega) (by omega)
  obtain ⟨n3, hn3⟩ : ∃ n3, n3 = 1 + r7 := ⟨_, rfl⟩
  obtain ⟨m, a8, b8, d8, e11, q15, q16⟩ := draw_c a7 b7 d7 (lim := 9) (by omega) (by omega)
  obtain ⟨a9, b9, d9, rows, e12, q17, q18⟩ := e_lists' a8 b8 d8 (n := n3) (many := m) (by omega) (by omega) q15 (by omega)
  obtain ⟨t, a10, b10, d10, e13, q19, q20⟩ := draw_c a9 b9 d9 (lim := n3 + 1) (by omega) (by omega)
  have hF : FarmOk n3 rows := ⟨by omega, by omega, by omega, q18⟩
  have e14 := e_make hF.n1 hF.n2 hF.len hF.row q19 (show t ≤ n3 by omega)
  have e15 := e_wright hF q19
  generalize dueF n2 s2 f2 = du at e8 e9
  have s1 : mAsg (mOp2 sAdd (.dat (M.pure (.int 1))) (.dat (mCallF m_law_draw [(.own 0), (.dat (mOp2 sIx (.dat (mLst [(M.pure (.int 5)), (M.pure (.int 30))])) (.dat (mCallF m_law_draw [(.own 0), (.dat (M.pure (.int 2)))]))))]))) (gNm 2) [.own (wellD a b d), .dat (.int k), .no, .no, .no, .no] = .next [.own (wellD a1 b1 d1), .dat (.int k), .dat (.int n), .no, .no, .no] :=
    mAsg_ok (mOp2_dd (x := .int 1) (y := .int r1) rfl (e1 _) (by rw [hn]; rfl)) rfl
  have s2' : mPar (mCallF m_law_draw [(.own 0), (.dat (mOp2 sIx (.dat (mLst [(M.pure (.int 7)), (M.pure (.int 61))])) (.dat (mCallF m_law_draw [(.own 0), (.dat (M.pure (.int 2)))]))))]) (mCallF m_law_draw [(.own 0), (.dat (mVar 2))]) 3 4 [.own (wellD a1 b1 d1), .dat (.int k), .dat (.int n), .no, .no, .no] = .next [.own (wellD a3 b3 d3), .dat (.int k), .dat (.int n), .dat (.int s), .dat (.int f), .no] :=
    par_ok (e2 _) (e3 (mVar 2) _ rfl)
  have t1 : mNot (mB (mCallF m_law_fair_right [(.dat (mVar 2)), (.dat (mVar 3)), (.dat (mVar 4))])) [.own (wellD a3 b3 d3), .dat (.int k), .dat (.int n), .dat (.int s), .dat (.int f), .no] = .ok false [.own (wellD a3 b3 d3), .dat (.int k), .dat (.int n), .dat (.int s), .dat (.int f), .no] := not_ff (mB_ok (callF3 rfl rfl rfl e4))
  have s4 : mAsg (mOp2 sAdd (.dat (M.pure (.int 1))) (.dat (mCallF m_law_draw [(.own 0), (.dat (M.pure (.int 3)))]))) (gNm 2) [.own (wellD a3 b3 d3), .dat (.int k), .dat (.int n), .dat (.int s), .dat (.int f), .no] = .next [.own (wellD a4 b4 d4), .dat (.int k), .dat (.int n2), .dat (.int s), .dat (.int f), .no] :=
    mAsg_ok (mOp2_dd (x := .int 1) (y := .int r4) rfl (e5 (M.pure (.int 3)) _ rfl) (by rw [hn2]; rfl)) rfl
  have s5 : mPar (mCallF m_law_draw [(.own 0), (.dat (M.pure (.int 4)))]) (mCallF m_law_draw [(.own 0), (.dat (mVar 2))]) 3 4 [.own (wellD a4 b4 d4), .dat (.int k), .dat (.int n2), .dat (.int s), .dat (.int f), .no] = .next [.own (wellD a6 b6 d6), .dat (.int k), .dat (.int n2), .dat (.int s2), .dat (.int f2), .no] :=
    par_ok (e6 (M.pure (.int 4)) _ rfl) (e7 (mVar 2) _ rfl)
  have t2 : mB (mOp2 sNe (.dat (mCallF m_law_least [(.dat (mVar 2)), (.dat (mVar 3)), (.dat (mVar 4))])) (.dat (mCallF m_least_worst_load [(.dat (mVar 2)), (.dat (mVar 3)), (.dat (mVar 4))]))) [.own (wellD a6 b6 d6), .dat (.int k), .dat (.int n2), .dat (.int s2), .dat (.int f2), .no] = .ok false [.own (wellD a6 b6 d6), .dat (.int k), .dat (.int n2), .dat (.int s2), .dat (.int f2), .no] := by
    have q := sNe_int du du
    rw [decide_eq_true rfl] at q
    exact mB_ok (mOp2_dd (callF3 rfl rfl rfl e8) (callF3 rfl rfl rfl e9) q)
  have s7 : mAsg (mOp2 sAdd (.dat (M.pure (.int 1))) (.dat (mCallF m_law_draw [(.own 0), (.dat (mOp2 sIx (.dat (mLst [(M.pure (.int 9)), (M.pure (.int 30))])) (.dat (mCallF m_law_draw [(.own 0), (.dat (M.pure (.int 2)))]))))]))) (gNm 2) [.own (wellD a6 b6 d6), .dat (.int k), .dat (.int n2), .dat (.int s2), .dat (.int f2), .no] = .next [.own (wellD a7 b7 d7), .dat (.int k), .dat (.int n3), .dat (.int s2), .dat (.int f2), .no] :=
    mAsg_ok (mOp2_dd (x := .int 1) (y := .int r7) rfl (e10 _) (by rw [hn3]; rfl)) rfl
  have s8 : mAsg (mCallF m_law_lists [(.own 0), (.dat (mVar 2)), (.dat (mCallF m_law_draw [(.own 0), (.dat (M.pure (.int 9)))]))]) (gNm 5) [.own (wellD a7 b7 d7), .dat (.int k), .dat (.int n3), .dat (.int s2), .dat (.int f2), .no] = .next [.own (wellD a9 b9 d9), .dat (.int k), .dat (.int n3), .dat (.int s2), .dat (.int f2), .dat (.lst (rows.map rowD))] :=
    mAsg_ok (callO3 rfl (e11 (M.pure (.int 9)) _ rfl) e12) rfl
  have s9 : mMake m_Farmdd_initdd [(mVar 2), (mVar 5), (mCallF m_law_draw [(.own 0), (.dat (mOp2 sAdd (.dat (mVar 2)) (.dat (M.pure (.int 1)))))])] [.own (wellD a9 b9 d9), .dat (.int k), .dat (.int n3), .dat (.int s2), .dat (.int f2), .dat (.lst (rows.map rowD))] = .ok (farmD n3 rows t) [.own (wellD a10 b10 d10), .dat (.int k), .dat (.int n3), .dat (.int s2), .dat (.int f2), .dat (.lst (rows.map rowD))] :=
    make3 rfl rfl (e13 (mOp2 sAdd (.dat (mVar 2)) (.dat (M.pure (.int 1)))) _ (mOp2_dd (x := .int n3) (y := .int 1) rfl rfl rfl)) e14
  have fin : b_law_right [.own (wellD a b d), .dat (.int k), .no, .no, .no, .no] = .ret (.bl true) [.own (wellD a10 b10 d10), .dat (.int k), .dat (.int n3), .dat (.int s2), .dat (.int f2), .dat (.lst (rows.map rowD))] := by
    unfold b_law_right
    rw [mSeq_next s1, mSeq_next s2']
    rw [mSeq_next (ρ' := [.own (wellD a3 b3 d3), .dat (.int k), .dat (.int n), .dat (.int s), .dat (.int f), .no]) (by rw [mIfS_f t1]; rfl)]
    rw [mSeq_next s4, mSeq_next s5]
    rw [mSeq_next (ρ' := [.own (wellD a6 b6 d6), .dat (.int k), .dat (.int n2), .dat (.int s2), .dat (.int f2), .no]) (by rw [mIfS_f t2]; rfl)]
    rw [mSeq_next s7, mSeq_next s8]
    unfold mRet mDo
    rw [callF1' s9 e15]
  have h' : b_law_right (initC 6 [0] [wellD a b d, .int k]) = .ret (.bl true) [.own (wellD a10 b10 d10), .dat (.int k), .dat (.int n3), .dat (.int s2), .dat (.int f2), .dat (.lst (rows.map rowD))] := by
    rw [show initC 6 [0] [wellD a b d, .int k] = [.own (wellD a b d), .dat (.int k), .no, .no, .no, .no] from rfl]
    exact fin
  refine ⟨[wellD a10 b10 d10], ?_⟩
  unfold m_law_right
  rw [mkFn_ret h']
  rfl
theorem law_body (c0 : Cell) (i v : Int) : (mIfS (mNot (mB (mCallN m_law_right (mLst [(mOp2 sMul (.dat (mVar 2)) (.dat (mCall sInt [(.dat (mOp2 sGe (.dat (mVar 2)) (.dat (mOp2 sPow (.dat (M.pure (.int 10))) (.dat (M.pure (.int 18)))))))]))), (mOp2 sAdd (.dat (mOp2 sMod (.dat (mVar 2)) (.dat (M.pure (.int 2147483647))))) (.dat (mOp2 sMul (.dat (M.pure (.int 7919))) (.dat (mVar 1))))), (M.pure (.int 0))]) [(mVar 1)]))) (mRet (M.pure (.bl false))) mSkip) [c0, .dat (.int i), .dat (.int v)] = .next [c0, .dat (.int i), .dat (.int v)] := by
  have h1 : mOp2 sGe (.dat (mVar 2)) (.dat (mOp2 sPow (.dat (M.pure (.int 10))) (.dat (M.pure (.int 18))))) [c0, .dat (.int i), .dat (.int v)] = .ok (.bl (decide ((10 : Int) ^ 18 ≤ v))) [c0, .dat (.int i), .dat (.int v)] :=
    mOp2_dd (x := .int v) (y := .int (10 ^ 18)) rfl (mOp2_dd (x := .int 10) (y := .int 18) rfl rfl pow18) rfl
  have h2 : mCall sInt [(.dat (mOp2 sGe (.dat (mVar 2)) (.dat (mOp2 sPow (.dat (M.pure (.int 10))) (.dat (M.pure (.int 18)))))))] [c0, .dat (.int i), .dat (.int v)] = .ok (.int (if decide ((10 : Int) ^ 18 ≤ v) then 1 else 0)) [c0, .dat (.int i), .dat (.int v)] := call1 h1 rfl
  generalize hj : (if decide ((10 : Int) ^ 18 ≤ v) then (1 : Int) else 0) = j at h2
  have hj2 : inR j = true := by
    rw [← hj]
    split <;> decide
  have h3 : (mOp2 sMul (.dat (mVar 2)) (.dat (mCall sInt [(.dat (mOp2 sGe (.dat (mVar 2)) (.dat (mOp2 sPow (.dat (M.pure (.int 10))) (.dat (M.pure (.int 18)))))))]))) [c0, .dat (.int i), .dat (.int v)] = .ok (.int (v * j)) [c0, .dat (.int i), .dat (.int v)] := mOp2_dd (x := .int v) rfl h2 (sMul_r hj2)
  have h4 : (mOp2 sAdd (.dat (mOp2 sMod (.dat (mVar 2)) (.dat (M.pure (.int 2147483647))))) (.dat (mOp2 sMul (.dat (M.pure (.int 7919))) (.dat (mVar 1))))) [c0, .dat (.int i), .dat (.int v)] = .ok (.int (v.fmod 2147483647 + 7919 * i)) [c0, .dat (.int i), .dat (.int v)] :=
    mOp2_dd (x := .int (v.fmod 2147483647)) (y := .int (7919 * i)) (mOp2_dd (x := .int v) (y := .int 2147483647) rfl rfl rfl) (mOp2_dd (x := .int 7919) (y := .int i) rfl rfl (sMul_l (by decide))) rfl
  obtain ⟨o, e⟩ := e_law_right (v * j) (v.fmod 2147483647 + 7919 * i) 0 i
  have h5 : mCallN m_law_right (mLst [(mOp2 sMul (.dat (mVar 2)) (.dat (mCall sInt [(.dat (mOp2 sGe (.dat (mVar 2)) (.dat (mOp2 sPow (.dat (M.pure (.int 10))) (.dat (M.pure (.int 18)))))))]))), (mOp2 sAdd (.dat (mOp2 sMod (.dat (mVar 2)) (.dat (M.pure (.int 2147483647))))) (.dat (mOp2 sMul (.dat (M.pure (.int 7919))) (.dat (mVar 1))))), (M.pure (.int 0))]) [(mVar 1)] [c0, .dat (.int i), .dat (.int v)] = .ok (.bl true) [c0, .dat (.int i), .dat (.int v)] := callN2 (lst3 h3 h4 rfl) (b := .int i) rfl e
  rw [mIfS_f (not_ff (mB_ok h5))]
  rfl
theorem ret_and3 {f g h : M D} {ρ : Cells} (h1 : f ρ = .ok (.bl true) ρ) (h2 : g ρ = .ok (.bl true) ρ) (h3 : h ρ = .ok (.bl true) ρ) : mRet (mAndV f (mAndV g h)) ρ = .ret (.bl true) ρ := by
  unfold mRet mDo
  rw [andV_tt h1 (andV_tt h2 h3)]
theorem fr_const {F : Fn} {x y z : D} {ρ : Cells} (h : F [x, y, z] = .ret (.bl true) []) : mCallF F [(.dat (M.pure x)), (.dat (M.pure y)), (.dat (M.pure z))] ρ = .ok (.bl true) ρ := callF3 rfl rfl rfl h
theorem plain_law (ns : List Int) (hl : ns.length ≤ 63) : ∃ outs, m_law [.lst (ns.map .int)] = .ret (.bl true) outs := by
  obtain ⟨ρ', e, c1, c2, hρ⟩ := loop_inv (g := gTp [1, 2]) (body := (mIfS (mNot (mB (mCallN m_law_right (mLst [(mOp2 sMul (.dat (mVar 2)) (.dat (mCall sInt [(.dat (mOp2 sGe (.dat (mVar 2)) (.dat (mOp2 sPow (.dat (M.pure (.int 10))) (.dat (M.pure (.int 18)))))))]))), (mOp2 sAdd (.dat (mOp2 sMod (.dat (mVar 2)) (.dat (M.pure (.int 2147483647))))) (.dat (mOp2 sMul (.dat (M.pure (.int 7919))) (.dat (mVar 1))))), (M.pure (.int 0))]) [(mVar 1)]))) (mRet (M.pure (.bl false))) mSkip)) (fun _ ρ => ∃ c1 c2, ρ = [.dat (.lst (ns.map .int)), c1, c2]) (enumD 0 (((ns ++ [0]).take 6).map .int)) 0 [.dat (.lst (ns.map .int)), .no, .no] ⟨.no, .no, rfl⟩
    (fun i dd ρ hd ⟨x, y, hρ⟩ => by
      obtain ⟨d', h7, rfl⟩ := enumD_inv 0 i _ _ hd
      rw [List.getElem?_map] at h7
      cases hr : ((ns ++ [0]).take 6)[i]? with
      | none => rw [hr] at h7; cases h7
      | some v =>
        rw [hr] at h7
        cases h7
        subst hρ
        exact ⟨[.dat (.lst (ns.map .int)), .dat (.int ((0 + i : Nat) : Int)), .dat (.int v)], by rfl, _, law_body _ _ _, _, _, rfl⟩)
  subst hρ
  refine ⟨[], ?_⟩
  have h1 : mEnum (mSl sCut (.dat (mOp2 sAdd (.dat (mVar 0)) (.dat (mLst [(M.pure (.int 0))])))) none (some (M.pure (.int 6)))) [.dat (.lst (ns.map .int)), .no, .no] = .ok (enumD 0 (((ns ++ [0]).take 6).map .int)) [.dat (.lst (ns.map .int)), .no, .no] := by
    have q1 : sAdd (.lst (ns.map .int)) (.lst [.int 0]) = some (.lst ((ns ++ [0]).map .int)) := by
      have q : (ns.map D.int).length + 1 ≤ 16777216 := by rw [List.length_map]; omega
      show (if (ns.map D.int).length + 1 ≤ 16777216 then some (D.lst (ns.map D.int ++ [.int 0])) else none) = _
      rw [if_pos q, List.map_append]
      rfl
    have q2 : sCut (.lst ((ns ++ [0]).map .int)) none (some 6) = some (.lst (((ns ++ [0]).take 6).map .int)) := by
      have := cut_take ((ns ++ [0]).map D.int) 6
      show some (D.lst (cutD _ none (some ((6 : Nat) : Int)))) = _
      rw [this, List.map_take]
    generalize ns ++ [0] = N at q1 q2 ⊢
    generalize (List.take 6 N).map D.int = N2 at q2 ⊢
    generalize N.map D.int = N1 at q1 q2 ⊢
    simp [mkFn, mSeq, mIfS, mDo, mRet, mRetN, mSkip, mExpr, mAsg, mAnd, mOr, mNot, mAndV, mOrV, mNotV, mB, mIf, mV, mNeg, mCall, mOp2, mTup, mLst, mMeth, mSl, mPart, preL, seqM, M.bind, M.pure, M.lift, M.stuck, Out.andThen, mVar, Opn.pre, Opn.rd, rdM, rdLM, rdL, cellD, initC, initAt, outsOf, outAt, gNm, gTp, gNms, mNew, mFrz, mPar, mFld, mCallF, mCallK, mCallN, appF, rdA, setOuts, ownSlots, ownPos, mSeqI, mEnum, mRange1, itemsOf, q1, q2]
  have f1 := e_fright (n := 30) (k := 60) (f := 29) (by decide) (by decide) (by decide) (by decide) (by decide) (by decide)
  have f2 := e_fright (n := 30) (k := 60) (f := 0) (by decide) (by decide) (by decide) (by decide) (by decide) (by decide)
  have f3 := e_fright (n := 1) (k := 60) (f := 0) (by decide) (by decide) (by decide) (by decide) (by decide) (by decide)
  have fin : b_law [.dat (.lst (ns.map .int)), .no, .no] = .ret (.bl true) [.dat (.lst (ns.map .int)), c1, c2] := by
    unfold b_law
    rw [mSeq_next (by rw [mFor_next h1]; exact e)]
    exact ret_and3 (fr_const f1) (fr_const f2) (fr_const f3)
  have h' : b_law (initC 3 [] [.lst (ns.map .int)]) = .ret (.bl true) [.dat (.lst (ns.map .int)), c1, c2] := by
    rw [show initC 3 [] [.lst (ns.map .int)] = [.dat (.lst (ns.map .int)), .no, .no] from rfl]
    exact fin
  unfold m_law
  rw [mkFn_ret h']
  rfl
end Fx
set_option Elab.async false
set_option linter.all false
set_option maxRecDepth 100000
set_option maxHeartbeats 8000000
namespace Fx
open PySem L2
abbrev s_x0 : Stmt := inClass (top 2) 0
theorem sc_x0 : FnScope ["self", "part", "index"] ["self", "part", "index"] (defScope s_x0) := ⟨rfl, rfl, rfl, by decide +kernel, rfl, by decide +kernel, by decide +kernel⟩
theorem ok_x0 {P : Program} {w : World} {K : PySem.W.Frag} {mg : Str → Option Value} {base : Heap} {f C CB : Addr} {fd : FuncData} (TB : BaseX K mg CB) (T : OexC K C) (hpart : PySem.W.findIn K (.ref C) "part" = some none) (hindex : PySem.W.findIn K (.ref C) "index" = some none) (F : FunD K "__init__" "NoFarm.__init__" (defArgs s_x0) (defBody s_x0) (defScope s_x0) [] [] f fd) : FnOk P w K mg base (L2.CX P w) 1 f fd ["self", "part", "index"] (spI2 C "part" "index") :=
  F.ok sc_x0 (fun vs H Q E h => by obtain ⟨a, y, z, rfl, _⟩ := h; rfl) fun cdv A outer s H vs Q E hr h => ⟨_, pss_cons (ps_expr (pe_feinit TB (pa_cons (pv 0) (pa_cons pe_str pa_nil)))) (pss_cons (ps_ost (pv 0) (pv 1)) (pss_one (ps_ost (pv 0) (pv 2)))), read2 rfl T hpart hindex h⟩
abbrev s_x2 : Stmt := inClass (top 4) 0
theorem sc_x2 : FnScope ["self", "index"] ["self", "index"] (defScope s_x2) := ⟨rfl, rfl, rfl, by decide +kernel, rfl, by decide +kernel, by decide +kernel⟩
theorem ok_x2 {P : Program} {w : World} {K : PySem.W.Frag} {mg : Str → Option Value} {base : Heap} {f C CB : Addr} {fd : FuncData} (TB : BaseX K mg CB) (T : OexC K C) (hindex : PySem.W.findIn K (.ref C) "index" = some none) (F : FunD K "__init__" "NoServers.__init__" (defArgs s_x2) (defBody s_x2) (defScope s_x2) [] [] f fd) : FnOk P w K mg base (L2.CX P w) 1 f fd ["self", "index"] (spI1 C "index") :=
  F.ok sc_x2 (fun vs H Q E h => by obtain ⟨a, y, rfl, _⟩ := h; rfl) fun cdv A outer s H vs Q E hr h => ⟨_, pss_cons (ps_expr (pe_feinit TB (pa_cons (pv 0) (pa_cons pe_str pa_nil)))) (pss_one (ps_ost (pv 0) (pv 1))), read1 rfl T hindex h⟩
theorem wire (plain : ∀ ns : List Int, ns.length ≤ 63 → ∃ outs, m_law [.lst (ns.map .int)] = .ret (.bl true) outs) {l : PySem.W.OpenLaw} {w : World} {K : PySem.W.Frag} {h : Heap} {mg : Str → Option Value} {fa C0 CB X0 X2 : Addr} (X : K.In h) (G : h.Ns mainGlobals mg) (hfa : mg "law" = some (.ref fa))
    {xn0 xq0 : Str} {xN0 : Addr} {xb0 : List Value} {xs0 : List Str} {xu0 : List Value} {xa0 : Bool} {xc0 : Option Bool} {xd0 : Option Addr} {xe0 xf0 xg0 xh0 xi0 : Option Value}
    {xn2 xq2 : Str} {xN2 : Addr} {xb2 : List Value} {xs2 : List Str} {xu2 : List Value} {xa2 : Bool} {xc2 : Option Bool} {xd2 : Option Addr} {xe2 xf2 xg2 xh2 xi2 : Option Value}
    {t_MAX_SERVERS : Tok}
    {t_MAX_SESSIONS : Tok}
    {f_NoFarmdd_initdd : Addr} {od_NoFarmdd_initdd an_NoFarmdd_initdd : Option Addr} {sl_NoFarmdd_initdd : Array (Option Value)} {oc_NoFarmdd_initdd dc_NoFarmdd_initdd pm_NoFarmdd_initdd cd_NoFarmdd_initdd ct_NoFarmdd_initdd : Value}
    {kV_NoFarmdd_initdd : Value}
    {f_NoServersdd_initdd : Addr} {od_NoServersdd_initdd an_NoServersdd_initdd : Option Addr} {sl_NoServersdd_initdd : Array (Option Value)} {oc_NoServersdd_initdd dc_NoServersdd_initdd pm_NoServersdd_initdd cd_NoServersdd_initdd ct_NoServersdd_initdd : Value}
    {kV_NoServersdd_initdd : Value}
    {f_Farmdd_initdd : Addr} {od_Farmdd_initdd an_Farmdd_initdd : Option Addr} {sl_Farmdd_initdd : Array (Option Value)} {oc_Farmdd_initdd dc_Farmdd_initdd pm_Farmdd_initdd cd_Farmdd_initdd ct_Farmdd_initdd : Value}
    {kV_Farmdd_initdd : Value}
    {f_Farm_servers : Addr} {od_Farm_servers an_Farm_servers : Option Addr} {sl_Farm_servers : Array (Option Value)} {oc_Farm_servers dc_Farm_servers pm_Farm_servers cd_Farm_servers ct_Farm_servers : Value}
    {kV_Farm_servers : Value}
    {f_Farmdd_lendd : Addr} {od_Farmdd_lendd an_Farmdd_lendd : Option Addr} {sl_Farmdd_lendd : Array (Option Value)} {oc_Farmdd_lendd dc_Farmdd_lendd pm_Farmdd_lendd cd_Farmdd_lendd ct_Farmdd_lendd : Value}
    {kV_Farmdd_lendd : Value}
    {f_Farm_failures : Addr} {od_Farm_failures an_Farm_failures : Option Addr} {sl_Farm_failures : Array (Option Value)} {oc_Farm_failures dc_Farm_failures pm_Farm_failures cd_Farm_failures ct_Farm_failures : Value}
    {kV_Farm_failures : Value}
    {f_Farm_lists : Addr} {od_Farm_lists an_Farm_lists : Option Addr} {sl_Farm_lists : Array (Option Value)} {oc_Farm_lists dc_Farm_lists pm_Farm_lists cd_Farm_lists ct_Farm_lists : Value}
    {kV_Farm_lists : Value}
    {f_law_draw : Addr} {od_law_draw an_law_draw : Option Addr} {sl_law_draw : Array (Option Value)} {oc_law_draw dc_law_draw pm_law_draw cd_law_draw ct_law_draw : Value}
    {kV_law_draw : Value}
    {f_is_int : Addr} {od_is_int an_is_int : Option Addr} {sl_is_int : Array (Option Value)} {oc_is_int dc_is_int pm_is_int cd_is_int ct_is_int : Value}
    {kV_is_int : Value}
    {f_is_from : Addr} {od_is_from an_is_from : Option Addr} {sl_is_from : Array (Option Value)} {oc_is_from dc_is_from pm_is_from cd_is_from ct_is_from : Value}
    {kV_is_from : Value}
    {f_check_sizes : Addr} {od_check_sizes an_check_sizes : Option Addr} {sl_check_sizes : Array (Option Value)} {oc_check_sizes dc_check_sizes pm_check_sizes cd_check_sizes ct_check_sizes : Value}
    {kV_check_sizes : Value}
    {f_is_row : Addr} {od_is_row an_is_row : Option Addr} {sl_is_row : Array (Option Value)} {oc_is_row dc_is_row pm_is_row cd_is_row ct_is_row : Value}
    {kV_is_row : Value}
    {f_fair_farm : Addr} {od_fair_farm an_fair_farm : Option Addr} {sl_fair_farm : Array (Option Value)} {oc_fair_farm dc_fair_farm pm_fair_farm cd_fair_farm ct_fair_farm : Value}
    {kV_fair_farm : Value}
    {f_worst_load : Addr} {od_worst_load an_worst_load : Option Addr} {sl_worst_load : Array (Option Value)} {oc_worst_load dc_worst_load pm_worst_load cd_worst_load ct_worst_load : Value}
    {kV_worst_load : Value}
    {f_least_worst_load : Addr} {od_least_worst_load an_least_worst_load : Option Addr} {sl_least_worst_load : Array (Option Value)} {oc_least_worst_load dc_least_worst_load pm_least_worst_load cd_least_worst_load ct_least_worst_load : Value}
    {kV_least_worst_load : Value}
    {f_law_counts : Addr} {od_law_counts an_law_counts : Option Addr} {sl_law_counts : Array (Option Value)} {oc_law_counts dc_law_counts pm_law_counts cd_law_counts ct_law_counts : Value}
    {kV_law_counts : Value}
    {f_first_bad_server : Addr} {od_first_bad_server an_first_bad_server : Option Addr} {sl_first_bad_server : Array (Option Value)} {oc_first_bad_server dc_first_bad_server pm_first_bad_server cd_first_bad_server ct_first_bad_server : Value}
    {kV_first_bad_server : Value}
    {f_near : Addr} {od_near an_near : Option Addr} {sl_near : Array (Option Value)} {oc_near dc_near pm_near cd_near ct_near : Value}
    {kV_near : Value}
    {f_greatest_load : Addr} {od_greatest_load an_greatest_load : Option Addr} {sl_greatest_load : Array (Option Value)} {oc_greatest_load dc_greatest_load pm_greatest_load cd_greatest_load ct_greatest_load : Value}
    {kV_greatest_load : Value}
    {f_law_worst_right : Addr} {od_law_worst_right an_law_worst_right : Option Addr} {sl_law_worst_right : Array (Option Value)} {oc_law_worst_right dc_law_worst_right pm_law_worst_right cd_law_worst_right ct_law_worst_right : Value}
    {kV_law_worst_right : Value}
    {f_law_fair_right : Addr} {od_law_fair_right an_law_fair_right : Option Addr} {sl_law_fair_right : Array (Option Value)} {oc_law_fair_right dc_law_fair_right pm_law_fair_right cd_law_fair_right ct_law_fair_right : Value}
    {kV_law_fair_right : Value}
    {f_law_choices : Addr} {od_law_choices an_law_choices : Option Addr} {sl_law_choices : Array (Option Value)} {oc_law_choices dc_law_choices pm_law_choices cd_law_choices ct_law_choices : Value}
    {kV_law_choices : Value}
    {f_law_least : Addr} {od_law_least an_law_least : Option Addr} {sl_law_least : Array (Option Value)} {oc_law_least dc_law_least pm_law_least cd_law_least ct_law_least : Value}
    {kV_law_least : Value}
    {f_law_shuffled : Addr} {od_law_shuffled an_law_shuffled : Option Addr} {sl_law_shuffled : Array (Option Value)} {oc_law_shuffled dc_law_shuffled pm_law_shuffled cd_law_shuffled ct_law_shuffled : Value}
    {kV_law_shuffled : Value}
    {f_law_lists : Addr} {od_law_lists an_law_lists : Option Addr} {sl_law_lists : Array (Option Value)} {oc_law_lists dc_law_lists pm_law_lists cd_law_lists ct_law_lists : Value}
    {kV_law_lists : Value}
    {f_law_right : Addr} {od_law_right an_law_right : Option Addr} {sl_law_right : Array (Option Value)} {oc_law_right dc_law_right pm_law_right cd_law_right ct_law_right : Value}
    {kV_law_right : Value}
    {f_law : Addr} {od_law an_law : Option Addr} {sl_law : Array (Option Value)} {oc_law dc_law pm_law cd_law ct_law : Value}
    {kV_law : Value}
    (aFarm : PySem.W.nsIn K mainGlobals "Farm" = some (some (.ref C0)))
    (aFE : PySem.W.nsIn K mainGlobals "FarmError" = some (some (.ref CB)))
    (aX0 : PySem.W.nsIn K mainGlobals "NoFarm" = some (some (.ref X0)))
    (xL0 : K.lookup X0 = some (PySem.excClassObj xn0 xq0 X0 xN0 xb0 [.ref CB, .type "ValueError", .type "Exception", .type "BaseException", .type "object"] true xs0 xu0 xa0 xc0 xd0 xe0 xf0 xg0 xh0 xi0 "ValueError.__new__"))
    (xsa0 : PySem.W.findIn K (.ref X0) "__setattr__" = some (some (.builtin "object.__setattr__")))
    (xex0 : PySem.W.subIn K (.ref X0) (.type "BaseException") = some true)
    (xty0 : PySem.W.typeIn K (.ref X0) = some (.type "type"))
    (xkp0 : PySem.W.keepIn K (.ref X0) = true)
    (xp0_part : PySem.W.findIn K (.ref X0) "part" = some none)
    (xp0_index : PySem.W.findIn K (.ref X0) "index" = some none)
    (aX2 : PySem.W.nsIn K mainGlobals "NoServers" = some (some (.ref X2)))
    (xL2 : K.lookup X2 = some (PySem.excClassObj xn2 xq2 X2 xN2 xb2 [.ref CB, .type "ValueError", .type "Exception", .type "BaseException", .type "object"] true xs2 xu2 xa2 xc2 xd2 xe2 xf2 xg2 xh2 xi2 "ValueError.__new__"))
    (xsa2 : PySem.W.findIn K (.ref X2) "__setattr__" = some (some (.builtin "object.__setattr__")))
    (xex2 : PySem.W.subIn K (.ref X2) (.type "BaseException") = some true)
    (xty2 : PySem.W.typeIn K (.ref X2) = some (.type "type"))
    (xkp2 : PySem.W.keepIn K (.ref X2) = true)
    (xp2_index : PySem.W.findIn K (.ref X2) "index" = some none)
    (fB : PySem.W.specialIn K (.ref CB) "__getattribute__" = some (some (.builtin "type.__getattribute__")))
    (fR : PySem.W.readsIn K CB (.type "type") = true)
    (fV : PySem.W.findCls K (.ref CB) (.type "type") "__init__" = some (.val (.builtin "ValueError.__init__")))
    (pg : PySem.W.plainGet K C0 Str.empty = true)
    (hd : PySem.W.hasDictIn K C0 = true)
    (po : PySem.W.plainOver K C0 = true)
    (sa : PySem.W.findIn K (.ref C0) "__setattr__" = some (some (.builtin "object.__setattr__")))
    (mk : PySem.W.makesIn K C0 = true)
    (kc : PySem.W.keepIn K (.ref C0) = true)
    (n_many : PySem.W.findIn K (.ref C0) "many" = some none)
    (n_rows : PySem.W.findIn K (.ref C0) "rows" = some none)
    (n_most : PySem.W.findIn K (.ref C0) "most" = some none)
    (zlen : PySem.W.nsIn K mainGlobals "len" = some none)
    (ztuple : PySem.W.nsIn K mainGlobals "tuple" = some none)
    (zlist : PySem.W.nsIn K mainGlobals "list" = some none)
    (zint : PySem.W.nsIn K mainGlobals "int" = some none)
    (zsum : PySem.W.nsIn K mainGlobals "sum" = some none)
    (zall : PySem.W.nsIn K mainGlobals "all" = some none)
    (zmax : PySem.W.nsIn K mainGlobals "max" = some none)
    (zmin : PySem.W.nsIn K mainGlobals "min" = some none)
    (zsorted : PySem.W.nsIn K mainGlobals "sorted" = some none)
    (zisinstance : PySem.W.nsIn K mainGlobals "isinstance" = some none)
    (zenumerate : PySem.W.nsIn K mainGlobals "enumerate" = some none)
    (zrange : PySem.W.nsIn K mainGlobals "range" = some none)
    (zset : PySem.W.nsIn K mainGlobals "set" = some none)
    (zbool : PySem.W.nsIn K mainGlobals "bool" = some none)
    (zstr : PySem.W.nsIn K mainGlobals "str" = some none)
    (g_MAX_SERVERS : PySem.W.nsIn K mainGlobals "MAX_SERVERS" = some (some (.int 30 t_MAX_SERVERS)))
    (g_MAX_SESSIONS : PySem.W.nsIn K mainGlobals "MAX_SESSIONS" = some (some (.int 60 t_MAX_SESSIONS)))
    (a_NoFarmdd_initdd : PySem.W.findIn K (.ref X0) "__init__" = some (some (.ref f_NoFarmdd_initdd)))
    (l_NoFarmdd_initdd : K.lookup f_NoFarmdd_initdd = some ⟨oc_NoFarmdd_initdd, od_NoFarmdd_initdd, .func (PySem.W.fnOf "__init__" "NoFarm.__init__" (defArgs s_x0) (defBody s_x0) (defScope s_x0) .none kV_NoFarmdd_initdd dc_NoFarmdd_initdd pm_NoFarmdd_initdd an_NoFarmdd_initdd cd_NoFarmdd_initdd ct_NoFarmdd_initdd), sl_NoFarmdd_initdd⟩)
    (c_NoFarmdd_initdd : PySem.W.codeIn K cd_NoFarmdd_initdd "NoFarm.__init__" = true)
    (k_NoFarmdd_initdd : PySem.W.keepIn K (.ref f_NoFarmdd_initdd) = true)
    (i_NoFarmdd_initdd : PySem.W.typeIn K (.ref f_NoFarmdd_initdd) = some (.type "function"))
    (a_NoServersdd_initdd : PySem.W.findIn K (.ref X2) "__init__" = some (some (.ref f_NoServersdd_initdd)))
    (l_NoServersdd_initdd : K.lookup f_NoServersdd_initdd = some ⟨oc_NoServersdd_initdd, od_NoServersdd_initdd, .func (PySem.W.fnOf "__init__" "NoServers.__init__" (defArgs s_x2) (defBody s_x2) (defScope s_x2) .none kV_NoServersdd_initdd dc_NoServersdd_initdd pm_NoServersdd_initdd an_NoServersdd_initdd cd_NoServersdd_initdd ct_NoServersdd_initdd), sl_NoServersdd_initdd⟩)
    (c_NoServersdd_initdd : PySem.W.codeIn K cd_NoServersdd_initdd "NoServers.__init__" = true)
    (k_NoServersdd_initdd : PySem.W.keepIn K (.ref f_NoServersdd_initdd) = true)
    (i_NoServersdd_initdd : PySem.W.typeIn K (.ref f_NoServersdd_initdd) = some (.type "function"))
    (a_Farmdd_initdd : PySem.W.findIn K (.ref C0) "__init__" = some (some (.ref f_Farmdd_initdd)))
    (l_Farmdd_initdd : K.lookup f_Farmdd_initdd = some ⟨oc_Farmdd_initdd, od_Farmdd_initdd, .func (PySem.W.fnOf "__init__" "Farm.__init__" (defArgs s_Farmdd_initdd) (defBody s_Farmdd_initdd) (defScope s_Farmdd_initdd) .none kV_Farmdd_initdd dc_Farmdd_initdd pm_Farmdd_initdd an_Farmdd_initdd cd_Farmdd_initdd ct_Farmdd_initdd), sl_Farmdd_initdd⟩)
    (c_Farmdd_initdd : PySem.W.codeIn K cd_Farmdd_initdd "Farm.__init__" = true)
    (k_Farmdd_initdd : PySem.W.keepIn K (.ref f_Farmdd_initdd) = true)
    (i_Farmdd_initdd : PySem.W.isFn K (.ref f_Farmdd_initdd) = true)
    (a_Farm_servers : PySem.W.findIn K (.ref C0) "servers" = some (some (.ref f_Farm_servers)))
    (l_Farm_servers : K.lookup f_Farm_servers = some ⟨oc_Farm_servers, od_Farm_servers, .func (PySem.W.fnOf "servers" "Farm.servers" (defArgs s_Farm_servers) (defBody s_Farm_servers) (defScope s_Farm_servers) .none kV_Farm_servers dc_Farm_servers pm_Farm_servers an_Farm_servers cd_Farm_servers ct_Farm_servers), sl_Farm_servers⟩)
    (c_Farm_servers : PySem.W.codeIn K cd_Farm_servers "Farm.servers" = true)
    (k_Farm_servers : PySem.W.keepIn K (.ref f_Farm_servers) = true)
    (i_Farm_servers : PySem.W.isFn K (.ref f_Farm_servers) = true)
    (a_Farmdd_lendd : PySem.W.findIn K (.ref C0) "__len__" = some (some (.ref f_Farmdd_lendd)))
    (l_Farmdd_lendd : K.lookup f_Farmdd_lendd = some ⟨oc_Farmdd_lendd, od_Farmdd_lendd, .func (PySem.W.fnOf "__len__" "Farm.__len__" (defArgs s_Farmdd_lendd) (defBody s_Farmdd_lendd) (defScope s_Farmdd_lendd) .none kV_Farmdd_lendd dc_Farmdd_lendd pm_Farmdd_lendd an_Farmdd_lendd cd_Farmdd_lendd ct_Farmdd_lendd), sl_Farmdd_lendd⟩)
    (c_Farmdd_lendd : PySem.W.codeIn K cd_Farmdd_lendd "Farm.__len__" = true)
    (k_Farmdd_lendd : PySem.W.keepIn K (.ref f_Farmdd_lendd) = true)
    (i_Farmdd_lendd : PySem.W.isFn K (.ref f_Farmdd_lendd) = true)
    (a_Farm_failures : PySem.W.findIn K (.ref C0) "failures" = some (some (.ref f_Farm_failures)))
    (l_Farm_failures : K.lookup f_Farm_failures = some ⟨oc_Farm_failures, od_Farm_failures, .func (PySem.W.fnOf "failures" "Farm.failures" (defArgs s_Farm_failures) (defBody s_Farm_failures) (defScope s_Farm_failures) .none kV_Farm_failures dc_Farm_failures pm_Farm_failures an_Farm_failures cd_Farm_failures ct_Farm_failures), sl_Farm_failures⟩)
    (c_Farm_failures : PySem.W.codeIn K cd_Farm_failures "Farm.failures" = true)
    (k_Farm_failures : PySem.W.keepIn K (.ref f_Farm_failures) = true)
    (i_Farm_failures : PySem.W.isFn K (.ref f_Farm_failures) = true)
    (a_Farm_lists : PySem.W.findIn K (.ref C0) "lists" = some (some (.ref f_Farm_lists)))
    (l_Farm_lists : K.lookup f_Farm_lists = some ⟨oc_Farm_lists, od_Farm_lists, .func (PySem.W.fnOf "lists" "Farm.lists" (defArgs s_Farm_lists) (defBody s_Farm_lists) (defScope s_Farm_lists) .none kV_Farm_lists dc_Farm_lists pm_Farm_lists an_Farm_lists cd_Farm_lists ct_Farm_lists), sl_Farm_lists⟩)
    (c_Farm_lists : PySem.W.codeIn K cd_Farm_lists "Farm.lists" = true)
    (k_Farm_lists : PySem.W.keepIn K (.ref f_Farm_lists) = true)
    (i_Farm_lists : PySem.W.isFn K (.ref f_Farm_lists) = true)
    (a_law_draw : PySem.W.nsIn K mainGlobals "_law_draw" = some (some (.ref f_law_draw)))
    (l_law_draw : K.lookup f_law_draw = some ⟨oc_law_draw, od_law_draw, .func (PySem.W.fnOf "_law_draw" "_law_draw" (defArgs s_law_draw) (defBody s_law_draw) (defScope s_law_draw) .none kV_law_draw dc_law_draw pm_law_draw an_law_draw cd_law_draw ct_law_draw), sl_law_draw⟩)
    (c_law_draw : PySem.W.codeIn K cd_law_draw "_law_draw" = true)
    (k_law_draw : PySem.W.keepIn K (.ref f_law_draw) = true)
    (a_is_int : PySem.W.nsIn K mainGlobals "is_int" = some (some (.ref f_is_int)))
    (l_is_int : K.lookup f_is_int = some ⟨oc_is_int, od_is_int, .func (PySem.W.fnOf "is_int" "is_int" (defArgs s_is_int) (defBody s_is_int) (defScope s_is_int) .none kV_is_int dc_is_int pm_is_int an_is_int cd_is_int ct_is_int), sl_is_int⟩)
    (c_is_int : PySem.W.codeIn K cd_is_int "is_int" = true)
    (k_is_int : PySem.W.keepIn K (.ref f_is_int) = true)
    (a_is_from : PySem.W.nsIn K mainGlobals "is_from" = some (some (.ref f_is_from)))
    (l_is_from : K.lookup f_is_from = some ⟨oc_is_from, od_is_from, .func (PySem.W.fnOf "is_from" "is_from" (defArgs s_is_from) (defBody s_is_from) (defScope s_is_from) .none kV_is_from dc_is_from pm_is_from an_is_from cd_is_from ct_is_from), sl_is_from⟩)
    (c_is_from : PySem.W.codeIn K cd_is_from "is_from" = true)
    (k_is_from : PySem.W.keepIn K (.ref f_is_from) = true)
    (a_check_sizes : PySem.W.nsIn K mainGlobals "check_sizes" = some (some (.ref f_check_sizes)))
    (l_check_sizes : K.lookup f_check_sizes = some ⟨oc_check_sizes, od_check_sizes, .func (PySem.W.fnOf "check_sizes" "check_sizes" (defArgs s_check_sizes) (defBody s_check_sizes) (defScope s_check_sizes) .none kV_check_sizes dc_check_sizes pm_check_sizes an_check_sizes cd_check_sizes ct_check_sizes), sl_check_sizes⟩)
    (c_check_sizes : PySem.W.codeIn K cd_check_sizes "check_sizes" = true)
    (k_check_sizes : PySem.W.keepIn K (.ref f_check_sizes) = true)
    (a_is_row : PySem.W.nsIn K mainGlobals "is_row" = some (some (.ref f_is_row)))
    (l_is_row : K.lookup f_is_row = some ⟨oc_is_row, od_is_row, .func (PySem.W.fnOf "is_row" "is_row" (defArgs s_is_row) (defBody s_is_row) (defScope s_is_row) .none kV_is_row dc_is_row pm_is_row an_is_row cd_is_row ct_is_row), sl_is_row⟩)
    (c_is_row : PySem.W.codeIn K cd_is_row "is_row" = true)
    (k_is_row : PySem.W.keepIn K (.ref f_is_row) = true)
    (a_fair_farm : PySem.W.nsIn K mainGlobals "fair_farm" = some (some (.ref f_fair_farm)))
    (l_fair_farm : K.lookup f_fair_farm = some ⟨oc_fair_farm, od_fair_farm, .func (PySem.W.fnOf "fair_farm" "fair_farm" (defArgs s_fair_farm) (defBody s_fair_farm) (defScope s_fair_farm) .none kV_fair_farm dc_fair_farm pm_fair_farm an_fair_farm cd_fair_farm ct_fair_farm), sl_fair_farm⟩)
    (c_fair_farm : PySem.W.codeIn K cd_fair_farm "fair_farm" = true)
    (k_fair_farm : PySem.W.keepIn K (.ref f_fair_farm) = true)
    (a_worst_load : PySem.W.nsIn K mainGlobals "worst_load" = some (some (.ref f_worst_load)))
    (l_worst_load : K.lookup f_worst_load = some ⟨oc_worst_load, od_worst_load, .func (PySem.W.fnOf "worst_load" "worst_load" (defArgs s_worst_load) (defBody s_worst_load) (defScope s_worst_load) .none kV_worst_load dc_worst_load pm_worst_load an_worst_load cd_worst_load ct_worst_load), sl_worst_load⟩)
    (c_worst_load : PySem.W.codeIn K cd_worst_load "worst_load" = true)
    (k_worst_load : PySem.W.keepIn K (.ref f_worst_load) = true)
    (a_least_worst_load : PySem.W.nsIn K mainGlobals "least_worst_load" = some (some (.ref f_least_worst_load)))
    (l_least_worst_load : K.lookup f_least_worst_load = some ⟨oc_least_worst_load, od_least_worst_load, .func (PySem.W.fnOf "least_worst_load" "least_worst_load" (defArgs s_least_worst_load) (defBody s_least_worst_load) (defScope s_least_worst_load) .none kV_least_worst_load dc_least_worst_load pm_least_worst_load an_least_worst_load cd_least_worst_load ct_least_worst_load), sl_least_worst_load⟩)
    (c_least_worst_load : PySem.W.codeIn K cd_least_worst_load "least_worst_load" = true)
    (k_least_worst_load : PySem.W.keepIn K (.ref f_least_worst_load) = true)
    (a_law_counts : PySem.W.nsIn K mainGlobals "_law_counts" = some (some (.ref f_law_counts)))
    (l_law_counts : K.lookup f_law_counts = some ⟨oc_law_counts, od_law_counts, .func (PySem.W.fnOf "_law_counts" "_law_counts" (defArgs s_law_counts) (defBody s_law_counts) (defScope s_law_counts) .none kV_law_counts dc_law_counts pm_law_counts an_law_counts cd_law_counts ct_law_counts), sl_law_counts⟩)
    (c_law_counts : PySem.W.codeIn K cd_law_counts "_law_counts" = true)
    (k_law_counts : PySem.W.keepIn K (.ref f_law_counts) = true)
    (a_first_bad_server : PySem.W.nsIn K mainGlobals "first_bad_server" = some (some (.ref f_first_bad_server)))
    (l_first_bad_server : K.lookup f_first_bad_server = some ⟨oc_first_bad_server, od_first_bad_server, .func (PySem.W.fnOf "first_bad_server" "first_bad_server" (defArgs s_first_bad_server) (defBody s_first_bad_server) (defScope s_first_bad_server) .none kV_first_bad_server dc_first_bad_server pm_first_bad_server an_first_bad_server cd_first_bad_server ct_first_bad_server), sl_first_bad_server⟩)
    (c_first_bad_server : PySem.W.codeIn K cd_first_bad_server "first_bad_server" = true)
    (k_first_bad_server : PySem.W.keepIn K (.ref f_first_bad_server) = true)
    (a_near : PySem.W.nsIn K mainGlobals "near" = some (some (.ref f_near)))
    (l_near : K.lookup f_near = some ⟨oc_near, od_near, .func (PySem.W.fnOf "near" "near" (defArgs s_near) (defBody s_near) (defScope s_near) .none kV_near dc_near pm_near an_near cd_near ct_near), sl_near⟩)
    (c_near : PySem.W.codeIn K cd_near "near" = true)
    (k_near : PySem.W.keepIn K (.ref f_near) = true)
    (a_greatest_load : PySem.W.nsIn K mainGlobals "greatest_load" = some (some (.ref f_greatest_load)))
    (l_greatest_load : K.lookup f_greatest_load = some ⟨oc_greatest_load, od_greatest_load, .func (PySem.W.fnOf "greatest_load" "greatest_load" (defArgs s_greatest_load) (defBody s_greatest_load) (defScope s_greatest_load) .none kV_greatest_load dc_greatest_load pm_greatest_load an_greatest_load cd_greatest_load ct_greatest_load), sl_greatest_load⟩)
    (c_greatest_load : PySem.W.codeIn K cd_greatest_load "greatest_load" = true)
    (k_greatest_load : PySem.W.keepIn K (.ref f_greatest_load) = true)
    (a_law_worst_right : PySem.W.nsIn K mainGlobals "_law_worst_right" = some (some (.ref f_law_worst_right)))
    (l_law_worst_right : K.lookup f_law_worst_right = some ⟨oc_law_worst_right, od_law_worst_right, .func (PySem.W.fnOf "_law_worst_right" "_law_worst_right" (defArgs s_law_worst_right) (defBody s_law_worst_right) (defScope s_law_worst_right) .none kV_law_worst_right dc_law_worst_right pm_law_worst_right an_law_worst_right cd_law_worst_right ct_law_worst_right), sl_law_worst_right⟩)
    (c_law_worst_right : PySem.W.codeIn K cd_law_worst_right "_law_worst_right" = true)
    (k_law_worst_right : PySem.W.keepIn K (.ref f_law_worst_right) = true)
    (a_law_fair_right : PySem.W.nsIn K mainGlobals "_law_fair_right" = some (some (.ref f_law_fair_right)))
    (l_law_fair_right : K.lookup f_law_fair_right = some ⟨oc_law_fair_right, od_law_fair_right, .func (PySem.W.fnOf "_law_fair_right" "_law_fair_right" (defArgs s_law_fair_right) (defBody s_law_fair_right) (defScope s_law_fair_right) .none kV_law_fair_right dc_law_fair_right pm_law_fair_right an_law_fair_right cd_law_fair_right ct_law_fair_right), sl_law_fair_right⟩)
    (c_law_fair_right : PySem.W.codeIn K cd_law_fair_right "_law_fair_right" = true)
    (k_law_fair_right : PySem.W.keepIn K (.ref f_law_fair_right) = true)
    (a_law_choices : PySem.W.nsIn K mainGlobals "_law_choices" = some (some (.ref f_law_choices)))
    (l_law_choices : K.lookup f_law_choices = some ⟨oc_law_choices, od_law_choices, .func (PySem.W.fnOf "_law_choices" "_law_choices" (defArgs s_law_choices) (defBody s_law_choices) (defScope s_law_choices) .none kV_law_choices dc_law_choices pm_law_choices an_law_choices cd_law_choices ct_law_choices), sl_law_choices⟩)
    (c_law_choices : PySem.W.codeIn K cd_law_choices "_law_choices" = true)
    (k_law_choices : PySem.W.keepIn K (.ref f_law_choices) = true)
    (a_law_least : PySem.W.nsIn K mainGlobals "_law_least" = some (some (.ref f_law_least)))
    (l_law_least : K.lookup f_law_least = some ⟨oc_law_least, od_law_least, .func (PySem.W.fnOf "_law_least" "_law_least" (defArgs s_law_least) (defBody s_law_least) (defScope s_law_least) .none kV_law_least dc_law_least pm_law_least an_law_least cd_law_least ct_law_least), sl_law_least⟩)
    (c_law_least : PySem.W.codeIn K cd_law_least "_law_least" = true)
    (k_law_least : PySem.W.keepIn K (.ref f_law_least) = true)
    (a_law_shuffled : PySem.W.nsIn K mainGlobals "_law_shuffled" = some (some (.ref f_law_shuffled)))
    (l_law_shuffled : K.lookup f_law_shuffled = some ⟨oc_law_shuffled, od_law_shuffled, .func (PySem.W.fnOf "_law_shuffled" "_law_shuffled" (defArgs s_law_shuffled) (defBody s_law_shuffled) (defScope s_law_shuffled) .none kV_law_shuffled dc_law_shuffled pm_law_shuffled an_law_shuffled cd_law_shuffled ct_law_shuffled), sl_law_shuffled⟩)
    (c_law_shuffled : PySem.W.codeIn K cd_law_shuffled "_law_shuffled" = true)
    (k_law_shuffled : PySem.W.keepIn K (.ref f_law_shuffled) = true)
    (a_law_lists : PySem.W.nsIn K mainGlobals "_law_lists" = some (some (.ref f_law_lists)))
    (l_law_lists : K.lookup f_law_lists = some ⟨oc_law_lists, od_law_lists, .func (PySem.W.fnOf "_law_lists" "_law_lists" (defArgs s_law_lists) (defBody s_law_lists) (defScope s_law_lists) .none kV_law_lists dc_law_lists pm_law_lists an_law_lists cd_law_lists ct_law_lists), sl_law_lists⟩)
    (c_law_lists : PySem.W.codeIn K cd_law_lists "_law_lists" = true)
    (k_law_lists : PySem.W.keepIn K (.ref f_law_lists) = true)
    (a_law_right : PySem.W.nsIn K mainGlobals "_law_right" = some (some (.ref f_law_right)))
    (l_law_right : K.lookup f_law_right = some ⟨oc_law_right, od_law_right, .func (PySem.W.fnOf "_law_right" "_law_right" (defArgs s_law_right) (defBody s_law_right) (defScope s_law_right) .none kV_law_right dc_law_right pm_law_right an_law_right cd_law_right ct_law_right), sl_law_right⟩)
    (c_law_right : PySem.W.codeIn K cd_law_right "_law_right" = true)
    (k_law_right : PySem.W.keepIn K (.ref f_law_right) = true)
    (a_law : PySem.W.nsIn K mainGlobals "law" = some (some (.ref f_law)))
    (l_law : K.lookup f_law = some ⟨oc_law, od_law, .func (PySem.W.fnOf "law" "law" (defArgs s_law) (defBody s_law) (defScope s_law) .none kV_law dc_law pm_law an_law cd_law ct_law), sl_law⟩)
    (c_law : PySem.W.codeIn K cd_law "law" = true)
    (k_law : PySem.W.keepIn K (.ref f_law) = true) :
    ∃ fd : FuncData, (∀ (s : Shared) (v : Value), BindsTo s fd ⟨[v], []⟩ [("_law_script", v)]) ∧ ∀ base : Heap, K.In base → base.Ns mainGlobals mg → FnOk l.prog w K mg base (L2.CX l.prog w) 9 fa fd ["_law_script"] (spLaw K) := by
  have e := hfa.symm.trans (PySem.W.mg_of X G a_law)
  cases e
  have blt : Blt mg := ⟨PySem.W.mg_none_of X G zlen, PySem.W.mg_none_of X G ztuple, PySem.W.mg_none_of X G zlist, PySem.W.mg_none_of X G zint, PySem.W.mg_none_of X G zsum, PySem.W.mg_none_of X G zall, PySem.W.mg_none_of X G zmax, PySem.W.mg_none_of X G zmin, PySem.W.mg_none_of X G zsorted, PySem.W.mg_none_of X G zisinstance, PySem.W.mg_none_of X G zenumerate, PySem.W.mg_none_of X G zrange, PySem.W.mg_none_of X G zset, PySem.W.mg_none_of X G zbool, PySem.W.mg_none_of X G zstr⟩
  have T : Txt K mg C0 := ⟨blt, ⟨pg, hd, po, sa⟩, n_many, n_rows, n_most, ⟨_, PySem.W.mg_of X G g_MAX_SERVERS⟩, ⟨_, PySem.W.mg_of X G g_MAX_SESSIONS⟩⟩
  have TB : BaseX K mg CB := ⟨PySem.W.mg_of X G aFE, fB, fR, fV⟩
  have O0 : OexC K X0 := ⟨⟨_, _, _, _, _, _, _, _, _, _, _, _, _, _, _, xL0, mro_ok⟩, xsa0, xex0, xty0, xkp0⟩
  have O2 : OexC K X2 := ⟨⟨_, _, _, _, _, _, _, _, _, _, _, _, _, _, _, xL2, mro_ok⟩, xsa2, xex2, xty2, xkp2⟩
  have F_NoFarmdd_initdd : FunD K "__init__" "NoFarm.__init__" (defArgs s_x0) (defBody s_x0) (defScope s_x0) [] [] _ _ := ⟨⟨_, _, _, _, _, _, _, _, _, _, rfl, l_NoFarmdd_initdd, c_NoFarmdd_initdd, .inl ⟨rfl, rfl⟩, .inl rfl⟩, k_NoFarmdd_initdd⟩
  have b_NoFarmdd_initdd : Binds K _ ["self", "part", "index"] [] := F_NoFarmdd_initdd.bindsN fun _ _ _ _ _ _ us hl => match us, hl with | [_, _, _], _ => rfl
  have F_NoServersdd_initdd : FunD K "__init__" "NoServers.__init__" (defArgs s_x2) (defBody s_x2) (defScope s_x2) [] [] _ _ := ⟨⟨_, _, _, _, _, _, _, _, _, _, rfl, l_NoServersdd_initdd, c_NoServersdd_initdd, .inl ⟨rfl, rfl⟩, .inl rfl⟩, k_NoServersdd_initdd⟩
  have b_NoServersdd_initdd : Binds K _ ["self", "index"] [] := F_NoServersdd_initdd.bindsN fun _ _ _ _ _ _ us hl => match us, hl with | [_, _], _ => rfl
  have F_Farmdd_initdd : FunD K "__init__" "Farm.__init__" (defArgs s_Farmdd_initdd) (defBody s_Farmdd_initdd) (defScope s_Farmdd_initdd) [] [] _ _ := ⟨⟨_, _, _, _, _, _, _, _, _, _, rfl, l_Farmdd_initdd, c_Farmdd_initdd, .inl ⟨rfl, rfl⟩, .inl rfl⟩, k_Farmdd_initdd⟩
  have b_Farmdd_initdd : Binds K _ ["self", "servers", "lists", "failures"] [] := F_Farmdd_initdd.bindsN fun _ _ _ _ _ _ us hl => match us, hl with | [_, _, _, _], _ => rfl
  have F_Farm_servers : FunD K "servers" "Farm.servers" (defArgs s_Farm_servers) (defBody s_Farm_servers) (defScope s_Farm_servers) [] [] _ _ := ⟨⟨_, _, _, _, _, _, _, _, _, _, rfl, l_Farm_servers, c_Farm_servers, .inl ⟨rfl, rfl⟩, .inl rfl⟩, k_Farm_servers⟩
  have b_Farm_servers : Binds K _ ["self"] [] := F_Farm_servers.bindsN fun _ _ _ _ _ _ us hl => match us, hl with | [_], _ => rfl
  have F_Farmdd_lendd : FunD K "__len__" "Farm.__len__" (defArgs s_Farmdd_lendd) (defBody s_Farmdd_lendd) (defScope s_Farmdd_lendd) [] [] _ _ := ⟨⟨_, _, _, _, _, _, _, _, _, _, rfl, l_Farmdd_lendd, c_Farmdd_lendd, .inl ⟨rfl, rfl⟩, .inl rfl⟩, k_Farmdd_lendd⟩
  have b_Farmdd_lendd : Binds K _ ["self"] [] := F_Farmdd_lendd.bindsN fun _ _ _ _ _ _ us hl => match us, hl with | [_], _ => rfl
  have F_Farm_failures : FunD K "failures" "Farm.failures" (defArgs s_Farm_failures) (defBody s_Farm_failures) (defScope s_Farm_failures) [] [] _ _ := ⟨⟨_, _, _, _, _, _, _, _, _, _, rfl, l_Farm_failures, c_Farm_failures, .inl ⟨rfl, rfl⟩, .inl rfl⟩, k_Farm_failures⟩
  have b_Farm_failures : Binds K _ ["self"] [] := F_Farm_failures.bindsN fun _ _ _ _ _ _ us hl => match us, hl with | [_], _ => rfl
  have F_Farm_lists : FunD K "lists" "Farm.lists" (defArgs s_Farm_lists) (defBody s_Farm_lists) (defScope s_Farm_lists) [] [] _ _ := ⟨⟨_, _, _, _, _, _, _, _, _, _, rfl, l_Farm_lists, c_Farm_lists, .inl ⟨rfl, rfl⟩, .inl rfl⟩, k_Farm_lists⟩
  have b_Farm_lists : Binds K _ ["self"] [] := F_Farm_lists.bindsN fun _ _ _ _ _ _ us hl => match us, hl with | [_], _ => rfl
  have F_law_draw : FunD K "_law_draw" "_law_draw" (defArgs s_law_draw) (defBody s_law_draw) (defScope s_law_draw) [] [] _ _ := ⟨⟨_, _, _, _, _, _, _, _, _, _, rfl, l_law_draw, c_law_draw, .inl ⟨rfl, rfl⟩, .inl rfl⟩, k_law_draw⟩
  have b_law_draw : Binds K _ ["_law_well", "_law_limit"] [] := F_law_draw.bindsN fun _ _ _ _ _ _ us hl => match us, hl with | [_, _], _ => rfl
  have F_is_int : FunD K "is_int" "is_int" (defArgs s_is_int) (defBody s_is_int) (defScope s_is_int) [] [] _ _ := ⟨⟨_, _, _, _, _, _, _, _, _, _, rfl, l_is_int, c_is_int, .inl ⟨rfl, rfl⟩, .inl rfl⟩, k_is_int⟩
  have b_is_int : Binds K _ ["value"] [] := F_is_int.bindsN fun _ _ _ _ _ _ us hl => match us, hl with | [_], _ => rfl
  have F_is_from : FunD K "is_from" "is_from" (defArgs s_is_from) (defBody s_is_from) (defScope s_is_from) [] [] _ _ := ⟨⟨_, _, _, _, _, _, _, _, _, _, rfl, l_is_from, c_is_from, .inl ⟨rfl, rfl⟩, .inl rfl⟩, k_is_from⟩
  have b_is_from : Binds K _ ["value", "low", "high"] [] := F_is_from.bindsN fun _ _ _ _ _ _ us hl => match us, hl with | [_, _, _], _ => rfl
  have F_check_sizes : FunD K "check_sizes" "check_sizes" (defArgs s_check_sizes) (defBody s_check_sizes) (defScope s_check_sizes) [] [] _ _ := ⟨⟨_, _, _, _, _, _, _, _, _, _, rfl, l_check_sizes, c_check_sizes, .inl ⟨rfl, rfl⟩, .inl rfl⟩, k_check_sizes⟩
  have b_check_sizes : Binds K _ ["servers", "sessions", "failures"] [] := F_check_sizes.bindsN fun _ _ _ _ _ _ us hl => match us, hl with | [_, _, _], _ => rfl
  have F_is_row : FunD K "is_row" "is_row" (defArgs s_is_row) (defBody s_is_row) (defScope s_is_row) [] [] _ _ := ⟨⟨_, _, _, _, _, _, _, _, _, _, rfl, l_is_row, c_is_row, .inl ⟨rfl, rfl⟩, .inl rfl⟩, k_is_row⟩
  have b_is_row : Binds K _ ["value", "servers"] [] := F_is_row.bindsN fun _ _ _ _ _ _ us hl => match us, hl with | [_, _], _ => rfl
  have F_fair_farm : FunD K "fair_farm" "fair_farm" (defArgs s_fair_farm) (defBody s_fair_farm) (defScope s_fair_farm) [] [] _ _ := ⟨⟨_, _, _, _, _, _, _, _, _, _, rfl, l_fair_farm, c_fair_farm, .inl ⟨rfl, rfl⟩, .inl rfl⟩, k_fair_farm⟩
  have b_fair_farm : Binds K _ ["servers", "sessions", "failures"] [] := F_fair_farm.bindsN fun _ _ _ _ _ _ us hl => match us, hl with | [_, _, _], _ => rfl
  have F_worst_load : FunD K "worst_load" "worst_load" (defArgs s_worst_load) (defBody s_worst_load) (defScope s_worst_load) [] [] _ _ := ⟨⟨_, _, _, _, _, _, _, _, _, _, rfl, l_worst_load, c_worst_load, .inl ⟨rfl, rfl⟩, .inl rfl⟩, k_worst_load⟩
  have b_worst_load : Binds K _ ["farm"] [] := F_worst_load.bindsN fun _ _ _ _ _ _ us hl => match us, hl with | [_], _ => rfl
  have F_least_worst_load : FunD K "least_worst_load" "least_worst_load" (defArgs s_least_worst_load) (defBody s_least_worst_load) (defScope s_least_worst_load) [] [] _ _ := ⟨⟨_, _, _, _, _, _, _, _, _, _, rfl, l_least_worst_load, c_least_worst_load, .inl ⟨rfl, rfl⟩, .inl rfl⟩, k_least_worst_load⟩
  have b_least_worst_load : Binds K _ ["servers", "sessions", "failures"] [] := F_least_worst_load.bindsN fun _ _ _ _ _ _ us hl => match us, hl with | [_, _, _], _ => rfl
  have F_law_counts : FunD K "_law_counts" "_law_counts" (defArgs s_law_counts) (defBody s_law_counts) (defScope s_law_counts) [] [] _ _ := ⟨⟨_, _, _, _, _, _, _, _, _, _, rfl, l_law_counts, c_law_counts, .inl ⟨rfl, rfl⟩, .inl rfl⟩, k_law_counts⟩
  have b_law_counts : Binds K _ ["_law_farm"] [] := F_law_counts.bindsN fun _ _ _ _ _ _ us hl => match us, hl with | [_], _ => rfl
  have F_first_bad_server : FunD K "first_bad_server" "first_bad_server" (defArgs s_first_bad_server) (defBody s_first_bad_server) (defScope s_first_bad_server) [] [] _ _ := ⟨⟨_, _, _, _, _, _, _, _, _, _, rfl, l_first_bad_server, c_first_bad_server, .inl ⟨rfl, rfl⟩, .inl rfl⟩, k_first_bad_server⟩
  have b_first_bad_server : Binds K _ ["farm", "servers"] [] := F_first_bad_server.bindsN fun _ _ _ _ _ _ us hl => match us, hl with | [_, _], _ => rfl
  have F_near : FunD K "near" "near" (defArgs s_near) (defBody s_near) (defScope s_near) [] [] _ _ := ⟨⟨_, _, _, _, _, _, _, _, _, _, rfl, l_near, c_near, .inl ⟨rfl, rfl⟩, .inl rfl⟩, k_near⟩
  have b_near : Binds K _ ["farm", "session"] [] := F_near.bindsN fun _ _ _ _ _ _ us hl => match us, hl with | [_, _], _ => rfl
  have F_greatest_load : FunD K "greatest_load" "greatest_load" (defArgs s_greatest_load) (defBody s_greatest_load) (defScope s_greatest_load) [] [] _ _ := ⟨⟨_, _, _, _, _, _, _, _, _, _, rfl, l_greatest_load, c_greatest_load, .inl ⟨rfl, rfl⟩, .inl rfl⟩, k_greatest_load⟩
  have b_greatest_load : Binds K _ ["farm", "servers"] [] := F_greatest_load.bindsN fun _ _ _ _ _ _ us hl => match us, hl with | [_, _], _ => rfl
  have F_law_worst_right : FunD K "_law_worst_right" "_law_worst_right" (defArgs s_law_worst_right) (defBody s_law_worst_right) (defScope s_law_worst_right) [] [] _ _ := ⟨⟨_, _, _, _, _, _, _, _, _, _, rfl, l_law_worst_right, c_law_worst_right, .inl ⟨rfl, rfl⟩, .inl rfl⟩, k_law_worst_right⟩
  have b_law_worst_right : Binds K _ ["_law_farm"] [] := F_law_worst_right.bindsN fun _ _ _ _ _ _ us hl => match us, hl with | [_], _ => rfl
  have F_law_fair_right : FunD K "_law_fair_right" "_law_fair_right" (defArgs s_law_fair_right) (defBody s_law_fair_right) (defScope s_law_fair_right) [] [] _ _ := ⟨⟨_, _, _, _, _, _, _, _, _, _, rfl, l_law_fair_right, c_law_fair_right, .inl ⟨rfl, rfl⟩, .inl rfl⟩, k_law_fair_right⟩
  have b_law_fair_right : Binds K _ ["_law_servers", "_law_sessions", "_law_failures"] [] := F_law_fair_right.bindsN fun _ _ _ _ _ _ us hl => match us, hl with | [_, _, _], _ => rfl
  have F_law_choices : FunD K "_law_choices" "_law_choices" (defArgs s_law_choices) (defBody s_law_choices) (defScope s_law_choices) [] [] _ _ := ⟨⟨_, _, _, _, _, _, _, _, _, _, rfl, l_law_choices, c_law_choices, .inl ⟨rfl, rfl⟩, .inl rfl⟩, k_law_choices⟩
  have b_law_choices : Binds K _ ["_law_servers", "_law_size"] [] := F_law_choices.bindsN fun _ _ _ _ _ _ us hl => match us, hl with | [_, _], _ => rfl
  have F_law_least : FunD K "_law_least" "_law_least" (defArgs s_law_least) (defBody s_law_least) (defScope s_law_least) [] [] _ _ := ⟨⟨_, _, _, _, _, _, _, _, _, _, rfl, l_law_least, c_law_least, .inl ⟨rfl, rfl⟩, .inl rfl⟩, k_law_least⟩
  have b_law_least : Binds K _ ["_law_servers", "_law_sessions", "_law_failures"] [] := F_law_least.bindsN fun _ _ _ _ _ _ us hl => match us, hl with | [_, _, _], _ => rfl
  have F_law_shuffled : FunD K "_law_shuffled" "_law_shuffled" (defArgs s_law_shuffled) (defBody s_law_shuffled) (defScope s_law_shuffled) [] [] _ _ := ⟨⟨_, _, _, _, _, _, _, _, _, _, rfl, l_law_shuffled, c_law_shuffled, .inl ⟨rfl, rfl⟩, .inl rfl⟩, k_law_shuffled⟩
  have b_law_shuffled : Binds K _ ["_law_well", "_law_items"] [] := F_law_shuffled.bindsN fun _ _ _ _ _ _ us hl => match us, hl with | [_, _], _ => rfl
  have F_law_lists : FunD K "_law_lists" "_law_lists" (defArgs s_law_lists) (defBody s_law_lists) (defScope s_law_lists) [] [] _ _ := ⟨⟨_, _, _, _, _, _, _, _, _, _, rfl, l_law_lists, c_law_lists, .inl ⟨rfl, rfl⟩, .inl rfl⟩, k_law_lists⟩
  have b_law_lists : Binds K _ ["_law_well", "_law_servers", "_law_many"] [] := F_law_lists.bindsN fun _ _ _ _ _ _ us hl => match us, hl with | [_, _, _], _ => rfl
  have F_law_right : FunD K "_law_right" "_law_right" (defArgs s_law_right) (defBody s_law_right) (defScope s_law_right) [] [] _ _ := ⟨⟨_, _, _, _, _, _, _, _, _, _, rfl, l_law_right, c_law_right, .inl ⟨rfl, rfl⟩, .inl rfl⟩, k_law_right⟩
  have b_law_right : Binds K _ ["_law_well", "_law_k"] [] := F_law_right.bindsN fun _ _ _ _ _ _ us hl => match us, hl with | [_, _], _ => rfl
  have F_law : FunD K "law" "law" (defArgs s_law) (defBody s_law) (defScope s_law) [] [] _ _ := ⟨⟨_, _, _, _, _, _, _, _, _, _, rfl, l_law, c_law, .inl ⟨rfl, rfl⟩, .inl rfl⟩, k_law⟩
  have b_law : Binds K _ ["_law_script"] [] := F_law.bindsN fun _ _ _ _ _ _ us hl => match us, hl with | [_], _ => rfl
  refine ⟨_, fun s v => F_law.bindsA (ps := ["_law_script"]) (fun _ _ _ _ _ _ us hl => match us, hl with | [_], _ => rfl) s [v] rfl, fun base _ _ => ?_⟩
  have c_law_draw : Cal l.prog w K mg base (cfK K C0 ([X0, 0, X2].getD · 0)) 1 "_law_draw" [0] 2 m_law_draw := ⟨_, _, _, ok_law_draw T  F_law_draw, PySem.W.mg_of X G a_law_draw, k_law_draw, b_law_draw⟩
  have c_is_int : Cal l.prog w K mg base (cfK K C0 ([X0, 0, X2].getD · 0)) 1 "is_int" [] 1 m_is_int := ⟨_, _, _, ok_is_int T  F_is_int, PySem.W.mg_of X G a_is_int, k_is_int, b_is_int⟩
  have c_is_from : Cal l.prog w K mg base (cfK K C0 ([X0, 0, X2].getD · 0)) 2 "is_from" [] 3 m_is_from := ⟨_, _, _, ok_is_from T c_is_int F_is_from, PySem.W.mg_of X G a_is_from, k_is_from, b_is_from⟩
  have c_NoFarm : CalX2 l.prog w K mg base (cfK K C0 ([X0, 0, X2].getD · 0)) 1 0 "NoFarm" "part" "index" := ⟨⟨_, _, _, ⟨PySem.W.mg_of X G aX0, O0, a_NoFarmdd_initdd, i_NoFarmdd_initdd⟩, ok_x0 TB O0 xp0_part xp0_index F_NoFarmdd_initdd, b_NoFarmdd_initdd⟩, rfl⟩
  have c_check_sizes : Cal l.prog w K mg base (cfK K C0 ([X0, 0, X2].getD · 0)) 3 "check_sizes" [] 3 m_check_sizes := ⟨_, _, _, ok_check_sizes T c_is_from c_NoFarm F_check_sizes, PySem.W.mg_of X G a_check_sizes, k_check_sizes, b_check_sizes⟩
  have c_is_row : Cal l.prog w K mg base (cfK K C0 ([X0, 0, X2].getD · 0)) 3 "is_row" [] 2 m_is_row := ⟨_, _, _, ok_is_row T c_is_from F_is_row, PySem.W.mg_of X G a_is_row, k_is_row, b_is_row⟩
  have c_Farm : CalM l.prog w K mg base (cfK K C0 ([X0, 0, X2].getD · 0)) 4 "Farm" 4 m_Farmdd_initdd := ⟨_, _, _, ⟨mk, a_Farmdd_initdd, i_Farmdd_initdd, kc⟩, ok_Farmdd_initdd T c_is_from c_NoFarm c_is_row F_Farmdd_initdd, PySem.W.mg_of X G aFarm, b_Farmdd_initdd⟩
  have c_fair_farm : Cal l.prog w K mg base (cfK K C0 ([X0, 0, X2].getD · 0)) 6 "fair_farm" [] 3 m_fair_farm := ⟨_, _, _, ok_fair_farm T c_check_sizes c_Farm F_fair_farm, PySem.W.mg_of X G a_fair_farm, k_fair_farm, b_fair_farm⟩
  have c_Farm_servers : CalF l.prog w K mg base (cfK K C0 ([X0, 0, X2].getD · 0)) 1 "servers" 1 m_Farm_servers := ⟨_, _, _, ⟨a_Farm_servers, i_Farm_servers, k_Farm_servers⟩, ok_Farm_servers T  F_Farm_servers, b_Farm_servers⟩
  have c_len : CalL l.prog w K mg base (cfK K C0 ([X0, 0, X2].getD · 0)) 1 m_Farmdd_lendd := ⟨_, _, _, a_Farmdd_lendd, i_Farmdd_lendd, ok_Farmdd_lendd T  F_Farmdd_lendd, b_Farmdd_lendd⟩
  have c_Farm_failures : CalF l.prog w K mg base (cfK K C0 ([X0, 0, X2].getD · 0)) 1 "failures" 1 m_Farm_failures := ⟨_, _, _, ⟨a_Farm_failures, i_Farm_failures, k_Farm_failures⟩, ok_Farm_failures T  F_Farm_failures, b_Farm_failures⟩
  have c_Farm_lists : CalF l.prog w K mg base (cfK K C0 ([X0, 0, X2].getD · 0)) 1 "lists" 1 m_Farm_lists := ⟨_, _, _, ⟨a_Farm_lists, i_Farm_lists, k_Farm_lists⟩, ok_Farm_lists T  F_Farm_lists, b_Farm_lists⟩
  have c_worst_load : Cal l.prog w K mg base (cfK K C0 ([X0, 0, X2].getD · 0)) 1 "worst_load" [] 1 m_worst_load := ⟨_, _, _, ok_worst_load T  F_worst_load, PySem.W.mg_of X G a_worst_load, k_worst_load, b_worst_load⟩
  have c_least_worst_load : Cal l.prog w K mg base (cfK K C0 ([X0, 0, X2].getD · 0)) 4 "least_worst_load" [] 3 m_least_worst_load := ⟨_, _, _, ok_least_worst_load T c_check_sizes F_least_worst_load, PySem.W.mg_of X G a_least_worst_load, k_least_worst_load, b_least_worst_load⟩
  have c_law_counts : Cal l.prog w K mg base (cfK K C0 ([X0, 0, X2].getD · 0)) 2 "_law_counts" [] 1 m_law_counts := ⟨_, _, _, ok_law_counts T c_Farm_lists c_Farm_failures c_Farm_servers F_law_counts, PySem.W.mg_of X G a_law_counts, k_law_counts, b_law_counts⟩
  have c_NoServers : CalX1 l.prog w K mg base (cfK K C0 ([X0, 0, X2].getD · 0)) 1 2 "NoServers" "index" := ⟨⟨_, _, _, ⟨PySem.W.mg_of X G aX2, O2, a_NoServersdd_initdd, i_NoServersdd_initdd⟩, ok_x2 TB O2 xp2_index F_NoServersdd_initdd, b_NoServersdd_initdd⟩, rfl⟩
  have c_first_bad_server : Cal l.prog w K mg base (cfK K C0 ([X0, 0, X2].getD · 0)) 3 "first_bad_server" [] 2 m_first_bad_server := ⟨_, _, _, ok_first_bad_server T c_is_from F_first_bad_server, PySem.W.mg_of X G a_first_bad_server, k_first_bad_server, b_first_bad_server⟩
  have c_near : Cal l.prog w K mg base (cfK K C0 ([X0, 0, X2].getD · 0)) 1 "near" [] 2 m_near := ⟨_, _, _, ok_near T  F_near, PySem.W.mg_of X G a_near, k_near, b_near⟩
  have c_greatest_load : Cal l.prog w K mg base (cfK K C0 ([X0, 0, X2].getD · 0)) 4 "greatest_load" [] 2 m_greatest_load := ⟨_, _, _, ok_greatest_load T c_NoServers c_first_bad_server c_len c_near F_greatest_load, PySem.W.mg_of X G a_greatest_load, k_greatest_load, b_greatest_load⟩
  have c_law_worst_right : Cal l.prog w K mg base (cfK K C0 ([X0, 0, X2].getD · 0)) 5 "_law_worst_right" [] 1 m_law_worst_right := ⟨_, _, _, ok_law_worst_right T c_law_counts c_worst_load c_greatest_load F_law_worst_right, PySem.W.mg_of X G a_law_worst_right, k_law_worst_right, b_law_worst_right⟩
  have c_law_fair_right : Cal l.prog w K mg base (cfK K C0 ([X0, 0, X2].getD · 0)) 7 "_law_fair_right" [] 3 m_law_fair_right := ⟨_, _, _, ok_law_fair_right T c_fair_farm c_Farm_servers c_len c_Farm_failures c_Farm_lists c_worst_load c_least_worst_load c_law_worst_right F_law_fair_right, PySem.W.mg_of X G a_law_fair_right, k_law_fair_right, b_law_fair_right⟩
  have c_law_choices : Cal l.prog w K mg base (cfK K C0 ([X0, 0, X2].getD · 0)) 1 "_law_choices" [] 2 m_law_choices := ⟨_, _, _, ok_law_choices T  F_law_choices, PySem.W.mg_of X G a_law_choices, k_law_choices, b_law_choices⟩
  have c_law_least : Cal l.prog w K mg base (cfK K C0 ([X0, 0, X2].getD · 0)) 6 "_law_least" [] 3 m_law_least := ⟨_, _, _, ok_law_least T c_law_choices c_law_counts c_Farm F_law_least, PySem.W.mg_of X G a_law_least, k_law_least, b_law_least⟩
  have c_law_shuffled : Cal l.prog w K mg base (cfK K C0 ([X0, 0, X2].getD · 0)) 2 "_law_shuffled" [0] 2 m_law_shuffled := ⟨_, _, _, ok_law_shuffled T c_law_draw F_law_shuffled, PySem.W.mg_of X G a_law_shuffled, k_law_shuffled, b_law_shuffled⟩
  have c_law_lists : Cal l.prog w K mg base (cfK K C0 ([X0, 0, X2].getD · 0)) 3 "_law_lists" [0] 3 m_law_lists := ⟨_, _, _, ok_law_lists T c_law_shuffled c_law_draw F_law_lists, PySem.W.mg_of X G a_law_lists, k_law_lists, b_law_lists⟩
  have c_law_right : Cal l.prog w K mg base (cfK K C0 ([X0, 0, X2].getD · 0)) 8 "_law_right" [0] 2 m_law_right := ⟨_, _, _, ok_law_right T c_law_draw c_law_fair_right c_law_least c_least_worst_load c_law_lists c_law_worst_right c_Farm F_law_right, PySem.W.mg_of X G a_law_right, k_law_right, b_law_right⟩
  exact (ok_law T c_law_right c_law_fair_right F_law : FnOk l.prog w K mg base (L2.CX l.prog w) 9 _ _ _ (spM (cfK K C0 ([X0, 0, X2].getD · 0)) [] 1 m_law)).imp (law_imp (c := cfK K C0 ([X0, 0, X2].getD · 0)) plain)
end Fx
open PySem PySem.W PyProof.Rows
set_option maxRecDepth 100000 in
set_option maxHeartbeats 0 in
theorem PySem.Challenge.cw_stickyservers_k50_fair_lists_holds : PySem.Challenge.rw_stickyservers_k50_fair_lists.Holds := by
  w_on; o_law; k_head; (case hw => w_witness2)
  k_fill
  refine Fx.walk_fx (l := PySem.Challenge.rw_stickyservers_k50_fair_lists) (k := 9) (x := "_law_script") rfl rfl ⟨rfl, by decide, by decide⟩ (fun w h Y => PySem.W.kIn_of Y) ?F
  case F =>
    intro w mg fa h KX G hmg
    refine' Fx.wire Fx.plain_law KX G hmg ?aFarm ?aFE ?aX0 ?xL0 ?xsa0 ?xex0 ?xty0 ?xkp0 ?xp0_part ?xp0_index ?aX2 ?xL2 ?xsa2 ?xex2 ?xty2 ?xkp2 ?xp2_index ?fB ?fR ?fV ?pg ?hd ?po ?sa ?mk ?kc ?n_many ?n_rows ?n_most ?zlen ?ztuple ?zlist ?zint ?zsum ?zall ?zmax ?zmin ?zsorted ?zisinstance ?zenumerate ?zrange ?zset ?zbool ?zstr ?g_MAX_SERVERS ?g_MAX_SESSIONS ?a_NoFarmdd_initdd ?l_NoFarmdd_initdd ?c_NoFarmdd_initdd ?k_NoFarmdd_initdd ?i_NoFarmdd_initdd ?a_NoServersdd_initdd ?l_NoServersdd_initdd ?c_NoServersdd_initdd ?k_NoServersdd_initdd ?i_NoServersdd_initdd ?a_Farmdd_initdd ?l_Farmdd_initdd ?c_Farmdd_initdd ?k_Farmdd_initdd ?i_Farmdd_initdd ?a_Farm_servers ?l_Farm_servers ?c_Farm_servers ?k_Farm_servers ?i_Farm_servers ?a_Farmdd_lendd ?l_Farmdd_lendd ?c_Farmdd_lendd ?k_Farmdd_lendd ?i_Farmdd_lendd ?a_Farm_failures ?l_Farm_failures ?c_Farm_failures ?k_Farm_failures ?i_Farm_failures ?a_Farm_lists ?l_Farm_lists ?c_Farm_lists ?k_Farm_lists ?i_Farm_lists ?a_law_draw ?l_law_draw ?c_law_draw ?k_law_draw ?a_is_int ?l_is_int ?c_is_int ?k_is_int ?a_is_from ?l_is_from ?c_is_from ?k_is_from ?a_check_sizes ?l_check_sizes ?c_check_sizes ?k_check_sizes ?a_is_row ?l_is_row ?c_is_row ?k_is_row ?a_fair_farm ?l_fair_farm ?c_fair_farm ?k_fair_farm ?a_worst_load ?l_worst_load ?c_worst_load ?k_worst_load ?a_least_worst_load ?l_least_worst_load ?c_least_worst_load ?k_least_worst_load ?a_law_counts ?l_law_counts ?c_law_counts ?k_law_counts ?a_first_bad_server ?l_first_bad_server ?c_first_bad_server ?k_first_bad_server ?a_near ?l_near ?c_near ?k_near ?a_greatest_load ?l_greatest_load ?c_greatest_load ?k_greatest_load ?a_law_worst_right ?l_law_worst_right ?c_law_worst_right ?k_law_worst_right ?a_law_fair_right ?l_law_fair_right ?c_law_fair_right ?k_law_fair_right ?a_law_choices ?l_law_choices ?c_law_choices ?k_law_choices ?a_law_least ?l_law_least ?c_law_least ?k_law_least ?a_law_shuffled ?l_law_shuffled ?c_law_shuffled ?k_law_shuffled ?a_law_lists ?l_law_lists ?c_law_lists ?k_law_lists ?a_law_right ?l_law_right ?c_law_right ?k_law_right ?a_law ?l_law ?c_law ?k_law
    (case aFarm => k_is); (case aFE => k_is); (case aX0 => k_is); (case xL0 => k_is); (case xsa0 => k_is); (case xex0 => k_is)
    (case xty0 => k_is); (case xkp0 => k_is); (case xp0_part => k_is); (case xp0_index => k_is); (case aX2 => k_is); (case xL2 => k_is)
    (case xsa2 => k_is); (case xex2 => k_is); (case xty2 => k_is); (case xkp2 => k_is); (case xp2_index => k_is); (case fB => k_is)
    (case fR => k_is); (case fV => k_is); (case pg => k_is); (case hd => k_is); (case po => k_is); (case sa => k_is)
    (case mk => k_is); (case kc => k_is); (case n_many => k_is); (case n_rows => k_is); (case n_most => k_is); (case zlen => k_is)
    (case ztuple => k_is); (case zlist => k_is); (case zint => k_is); (case zsum => k_is); (case zall => k_is); (case zmax => k_is)
    (case zmin => k_is); (case zsorted => k_is); (case zisinstance => k_is); (case zenumerate => k_is); (case zrange => k_is); (case zset => k_is)
    (case zbool => k_is); (case zstr => k_is); (case g_MAX_SERVERS => k_is); (case g_MAX_SESSIONS => k_is); (case a_NoFarmdd_initdd => k_is); (case l_NoFarmdd_initdd => k_is)
    (case c_NoFarmdd_initdd => k_is); (case k_NoFarmdd_initdd => k_is); (case i_NoFarmdd_initdd => k_is); (case a_NoServersdd_initdd => k_is); (case l_NoServersdd_initdd => k_is); (case c_NoServersdd_initdd => k_is)
    (case k_NoServersdd_initdd => k_is); (case i_NoServersdd_initdd => k_is); (case a_Farmdd_initdd => k_is); (case l_Farmdd_initdd => k_is); (case c_Farmdd_initdd => k_is); (case k_Farmdd_initdd => k_is)
    (case i_Farmdd_initdd => k_is); (case a_Farm_servers => k_is); (case l_Farm_servers => k_is); (case c_Farm_servers => k_is); (case k_Farm_servers => k_is); (case i_Farm_servers => k_is)
    (case a_Farmdd_lendd => k_is); (case l_Farmdd_lendd => k_is); (case c_Farmdd_lendd => k_is); (case k_Farmdd_lendd => k_is); (case i_Farmdd_lendd => k_is); (case a_Farm_failures => k_is)
    (case l_Farm_failures => k_is); (case c_Farm_failures => k_is); (case k_Farm_failures => k_is); (case i_Farm_failures => k_is); (case a_Farm_lists => k_is); (case l_Farm_lists => k_is)
    (case c_Farm_lists => k_is); (case k_Farm_lists => k_is); (case i_Farm_lists => k_is); (case a_law_draw => k_is); (case l_law_draw => k_is); (case c_law_draw => k_is)
    (case k_law_draw => k_is); (case a_is_int => k_is); (case l_is_int => k_is); (case c_is_int => k_is); (case k_is_int => k_is); (case a_is_from => k_is)
    (case l_is_from => k_is); (case c_is_from => k_is); (case k_is_from => k_is); (case a_check_sizes => k_is); (case l_check_sizes => k_is); (case c_check_sizes => k_is)
    (case k_check_sizes => k_is); (case a_is_row => k_is); (case l_is_row => k_is); (case c_is_row => k_is); (case k_is_row => k_is); (case a_fair_farm => k_is)
    (case l_fair_farm => k_is); (case c_fair_farm => k_is); (case k_fair_farm => k_is); (case a_worst_load => k_is); (case l_worst_load => k_is); (case c_worst_load => k_is)
    (case k_worst_load => k_is); (case a_least_worst_load => k_is); (case l_least_worst_load => k_is); (case c_least_worst_load => k_is); (case k_least_worst_load => k_is); (case a_law_counts => k_is)
    (case l_law_counts => k_is); (case c_law_counts => k_is); (case k_law_counts => k_is); (case a_first_bad_server => k_is); (case l_first_bad_server => k_is); (case c_first_bad_server => k_is)
    (case k_first_bad_server => k_is); (case a_near => k_is); (case l_near => k_is); (case c_near => k_is); (case k_near => k_is); (case a_greatest_load => k_is)
    (case l_greatest_load => k_is); (case c_greatest_load => k_is); (case k_greatest_load => k_is); (case a_law_worst_right => k_is); (case l_law_worst_right => k_is); (case c_law_worst_right => k_is)
    (case k_law_worst_right => k_is); (case a_law_fair_right => k_is); (case l_law_fair_right => k_is); (case c_law_fair_right => k_is); (case k_law_fair_right => k_is); (case a_law_choices => k_is)
    (case l_law_choices => k_is); (case c_law_choices => k_is); (case k_law_choices => k_is); (case a_law_least => k_is); (case l_law_least => k_is); (case c_law_least => k_is)
    (case k_law_least => k_is); (case a_law_shuffled => k_is); (case l_law_shuffled => k_is); (case c_law_shuffled => k_is); (case k_law_shuffled => k_is); (case a_law_lists => k_is)
    (case l_law_lists => k_is); (case c_law_lists => k_is); (case k_law_lists => k_is); (case a_law_right => k_is); (case l_law_right => k_is); (case c_law_right => k_is)
    (case k_law_right => k_is); (case a_law => k_is); (case l_law => k_is); (case c_law => k_is); (case k_law => k_is)
